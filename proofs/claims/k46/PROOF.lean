import PyProof.Rows.All
import Wide.All
import OpenK.AllK
import Wide.FinOn
import HandS.ForMost
import HandS.Walk
import HandS.Wide
import HandS.IsInst
import HandS.HeadHook2
import HandS.Steps
import HandS.WordsExc
import HandS.ListItems
import HandS.SortKw
import KE.DataMinMax
import OpenK.KOps
import KE.SortData
import PyProof.StrOps2
import HandS.HeadHook4
import PyProof.ReprRoads
import HandS.Style
import HandS.HeadEnd
import KE.KDictList
import KE.GoesMore
import HandS.Conv
import PyProof.IsRules
import HandS.Deep
import HandS.ExcInit
import HandS.ExcField
import HandS.ExcOwn
import PySem.Challenge.RW_needlecards_k46_large_requests
import HandS.Head0
import HandS.Head1
import HandS.Head2
set_option Elab.async false
set_option linter.all false
set_option maxRecDepth 100000
set_option maxHeartbeats 4123456
/-! R0: data, representation, environments, judgements. -/
namespace R
open PySem L2

/-- plain data -/
inductive Da where
  | non | bl (b : Bool) | int (i : Int) | str (x : Str)
  | lst (ds : List Da) | tup (ds : List Da) | dic (kvs : List (Key × Da)) | pck (cs : List (Str × Str)) | scr (ns : List Int)

abbrev PC (K : PySem.W.Frag) : Addr := He.ga K "Pack"
def rowsOf (cs : List (Str × Str)) : List (Key × V) := cs.map fun c => ((Sum.inr c.1 : Key), V.str c.2)

mutual
/-- the value v stands for the datum in the stable heap G -/
inductive Rep (K : PySem.W.Frag) (G : Hp) : V → Da → Prop
  | non : Rep K G .non .non
  | bl (b : Bool) : Rep K G (.bl b) (.bl b)
  | int (i : Int) : Rep K G (.int i) (.int i)
  | str (x : Str) : Rep K G (.str x) (.str x)
  | lst {a : Addr} {xs : List V} {ds : List Da} : G a = some (.lst xs) → Reps K G xs ds → Rep K G (.ref a) (.lst ds)
  | tup {a : Addr} {xs : List V} {ds : List Da} : SqT K G a xs → Reps K G xs ds → Rep K G (.ref a) (.tup ds)
  | dic {a : Addr} {o : Obj} {kvs : List (Key × V)} {kds : List (Key × Da)} : G a = some (.frz o (.dK kvs)) → RepK K G kvs kds → Rep K G (.ref a) (.dic kds)
  | pck {a dx d : Addr} {o : Obj} {cs : List (Str × Str)} : G a = some (.ins (PC K) dx [(("pack_rows" : Str), .ref d)]) → G dx = some (.own a) → G d = some (.frz o (.dK (rowsOf cs))) → Rep K G (.ref a) (.pck cs)
  | scr {a : Addr} {ns : List Int} : SqL K G a (ns.map V.int) → Rep K G (.ref a) (.scr ns)
inductive Reps (K : PySem.W.Frag) (G : Hp) : List V → List Da → Prop
  | nil : Reps K G [] []
  | cons {v : V} {d : Da} {vs : List V} {ds : List Da} : Rep K G v d → Reps K G vs ds → Reps K G (v :: vs) (d :: ds)
inductive RepK (K : PySem.W.Frag) (G : Hp) : List (Key × V) → List (Key × Da) → Prop
  | nil : RepK K G [] []
  | cons {k : Key} {v : V} {d : Da} {vs : List (Key × V)} {ds : List (Key × Da)} : Rep K G v d → RepK K G vs ds → RepK K G ((k, v) :: vs) ((k, d) :: ds)
end

theorem sqT_same {K : PySem.W.Frag} {H H' : Hp} {a : Addr} {xs : List V} (e : Same H H') (h : SqT K H a xs) : SqT K H' a xs := by
  rcases h with (h | ⟨o, h⟩) | h
  · exact .inl (.inl (e _ _ h))
  · exact .inl (.inr ⟨o, e _ _ h⟩)
  · exact .inr h

section
variable {K : PySem.W.Frag} {G G' : Hp}
mutual
theorem Rep.mono (e : Same G G') : ∀ {v : V} {d : Da}, Rep K G v d → Rep K G' v d
  | _, _, .non => .non
  | _, _, .bl b => .bl b
  | _, _, .int i => .int i
  | _, _, .str x => .str x
  | _, _, .lst h r => .lst (e _ _ h) (Reps.mono e r)
  | _, _, .tup h r => .tup (sqT_same e h) (Reps.mono e r)
  | _, _, .dic h r => .dic (e _ _ h) (RepK.mono e r)
  | _, _, .pck h1 h2 h3 => .pck (e _ _ h1) (e _ _ h2) (e _ _ h3)
  | _, _, .scr h => .scr (e.seq h)
theorem Reps.mono (e : Same G G') : ∀ {v : List V} {d : List Da}, Reps K G v d → Reps K G' v d
  | _, _, .nil => .nil
  | _, _, .cons h r => .cons (Rep.mono e h) (Reps.mono e r)
theorem RepK.mono (e : Same G G') : ∀ {v : List (Key × V)} {d : List (Key × Da)}, RepK K G v d → RepK K G' v d
  | _, _, .nil => .nil
  | _, _, .cons h r => .cons (Rep.mono e h) (RepK.mono e r)
end
theorem Reps.len : ∀ {vs : List V} {ds : List Da}, Reps K G vs ds → vs.length = ds.length
  | _, _, .nil => rfl
  | _, _, .cons _ r => congrArg (· + 1) r.len
theorem Reps.get : ∀ {vs : List V} {ds : List Da} {i : Nat} {d : Da}, Reps K G vs ds → ds[i]? = some d → ∃ v, vs[i]? = some v ∧ Rep K G v d
  | _, _, _, _, .nil, e => by simp at e
  | _, _, 0, _, .cons h _, e => by simp at e; subst e; exact ⟨_, rfl, h⟩
  | _, _, i + 1, d, .cons _ r, e => by
    obtain ⟨v, h1, h2⟩ := Reps.get (i := i) (d := d) r (by simpa using e)
    exact ⟨v, by simpa using h1, h2⟩
theorem Reps.getV : ∀ {vs : List V} {ds : List Da} {i : Nat} {v : V}, Reps K G vs ds → vs[i]? = some v → ∃ d, ds[i]? = some d ∧ Rep K G v d
  | _, _, _, _, .nil, e => by simp at e
  | _, _, 0, _, .cons h _, e => by simp at e; subst e; exact ⟨_, rfl, h⟩
  | _, _, i + 1, d, .cons _ r, e => by
    obtain ⟨v, h1, h2⟩ := Reps.getV (i := i) r (by simpa using e)
    exact ⟨v, by simpa using h1, h2⟩
theorem Reps.app : ∀ {vs ws : List V} {ds es : List Da}, Reps K G vs ds → Reps K G ws es → Reps K G (vs ++ ws) (ds ++ es)
  | _, _, _, _, .nil, s => s
  | _, _, _, _, .cons h r, s => .cons h (r.app s)
theorem Reps.take : ∀ {vs : List V} {ds : List Da} (n : Nat), Reps K G vs ds → Reps K G (vs.take n) (ds.take n)
  | _, _, 0, _ => .nil
  | _, _, _ + 1, .nil => .nil
  | _, _, n + 1, .cons h r => .cons h (r.take n)
theorem Reps.drop : ∀ {vs : List V} {ds : List Da} (n : Nat), Reps K G vs ds → Reps K G (vs.drop n) (ds.drop n)
  | _, _, 0, r => r
  | _, _, _ + 1, .nil => .nil
  | _, _, n + 1, .cons _ r => r.drop n
theorem Reps.set {v : V} {d : Da} (h : Rep K G v d) : ∀ {vs : List V} {ds : List Da} (i : Nat), Reps K G vs ds → Reps K G (vs.set i v) (ds.set i d)
  | _, _, _, .nil => .nil
  | _, _, 0, .cons _ r => .cons h r
  | _, _, i + 1, .cons q r => .cons q (Reps.set h i r)
theorem Reps.eraseIdx : ∀ {vs : List V} {ds : List Da} (i : Nat), Reps K G vs ds → Reps K G (vs.eraseIdx i) (ds.eraseIdx i)
  | _, _, _, .nil => .nil
  | _, _, 0, .cons _ r => r
  | _, _, i + 1, .cons q r => .cons q (Reps.eraseIdx i r)
theorem Reps.rev {vs : List V} {ds : List Da} (h : Reps K G vs ds) : Reps K G vs.reverse ds.reverse := by
  induction vs generalizing ds with
  | nil => cases h; exact .nil
  | cons v vs ih =>
    cases h with
    | cons h r =>
      rw [List.reverse_cons, List.reverse_cons]
      exact (ih r).app (.cons h .nil)
end

/-- G's knowledge grows, H keeps all but the box; what H tracks beside G stays beside G' -/
structure Ext (bx : Option Addr) (G H G' H' : Hp) : Prop where
  gg : Same G G'
  hh : ∀ a o, bx ≠ some a → H a = some o → H' a = some o
  hn : ∀ a, H a ≠ none → H' a ≠ none
  gs : ∀ a, H a ≠ none → G' a = G a
  le : Same G' H'
theorem Ext.refl {bx : Option Addr} {G H : Hp} (h : Same G H) : Ext bx G H G H := ⟨Same.refl G, fun _ _ _ h => h, fun _ h => h, fun _ _ => rfl, h⟩
theorem Ext.trans {bx : Option Addr} {G H G1 H1 G2 H2 : Hp} (a : Ext bx G H G1 H1) (b : Ext bx G1 H1 G2 H2) : Ext bx G H G2 H2 :=
  ⟨a.gg.trans b.gg, fun x o n h => b.hh x o n (a.hh x o n h), fun x h => b.hn x (a.hn x h), fun x h => (b.gs x (a.hn x h)).trans (a.gs x h), b.le⟩
theorem Ext.none_to {bx : Option Addr} {G H G' H' : Hp} (a : Ext none G H G' H') : Ext bx G H G' H' :=
  ⟨a.gg, fun x o _ h => a.hh x o (fun z => nomatch z) h, a.hn, a.gs, a.le⟩
/-- a new object becomes known -/
theorem Ext.new {bx : Option Addr} {G H : Hp} {p : Addr} {o : HO} (le : Same G H) (hp : H p = none) : Ext bx G H (upd G p o) (upd H p o) := by
  have gp : G p = none := le.free hp
  refine ⟨fun a u e => ?_, fun a u _ e => ?_, fun a e => ?_, fun a e => ?_, fun a u e => ?_⟩
  · rw [upd_ne (ne_of_none e gp)]; exact e
  · rw [upd_ne (ne_of_none e hp)]; exact e
  · by_cases h : a = p
    · rw [h, upd_same]; exact fun z => nomatch z
    · rw [upd_ne h]; exact e
  · rw [upd_ne (fun z => e (by rw [z]; exact hp))]
  · by_cases h : a = p
    · rw [h, upd_same] at e ⊢; exact e
    · rw [upd_ne h] at e ⊢; exact le a u e
/-- a new object, not known as yet -/
theorem Ext.own {bx : Option Addr} {G H : Hp} {p : Addr} {o : HO} (le : Same G H) (hp : H p = none) : Ext bx G H G (upd H p o) := by
  refine ⟨Same.refl G, fun a u _ e => ?_, fun a e => ?_, fun a e => rfl, fun a u e => ?_⟩
  · rw [upd_ne (ne_of_none e hp)]; exact e
  · by_cases h : a = p
    · rw [h, upd_same]; exact fun z => nomatch z
    · rw [upd_ne h]; exact e
  · rw [upd_ne (ne_of_none (le a u e) hp)]; exact le a u e

/-- what a slot holds -/
inductive En where
  | any | rep (d : Da) | own (ds : List Da) | box (n : Nat) | dct (kds : List (Key × Da))
def BoxV (c0 c1 c2 : Int) (n : Nat) : Prop := 0 ≤ c0 ∧ 0 ≤ c1 ∧ c1 < 2147483629 ∧ 0 ≤ c2 ∧ c2 ≤ (n : Int)
def EnOk (K : PySem.W.Frag) (He : Hp) (bx : Option Addr) (G H : Hp) (o : Option V) : En → Prop
  | .any => True
  | .rep d => ∃ v, o = some v ∧ Rep K G v d
  | .own ds => ∃ l vs, o = some (.ref l) ∧ He l = none ∧ G l = none ∧ H l = some (.lst vs) ∧ Reps K G vs ds ∧ bx ≠ some l
  | .dct kds => ∃ l kvs, o = some (.ref l) ∧ He l = none ∧ G l = none ∧ H l = some (.dK kvs) ∧ RepK K G kvs kds ∧ bx ≠ some l
  | .box n => ∃ b c0 c1 c2, o = some (.ref b) ∧ bx = some b ∧ G b = none ∧ H b = some (.lst [.int c0, .int c1, .int c2]) ∧ BoxV c0 c1 c2 n
structure ER (K : PySem.W.Frag) (bp : Option Addr) (He : Hp) (bx : Option Addr) (G H : Hp) (σ : L2.St) (δ : List En) : Prop where
  len : σ.length = δ.length
  at_ : ∀ (i : Nat) (en : En), δ[i]? = some en → EnOk K He bx G H (σ[i]?.join) en
  sep : ∀ (i j : Nat) (ds es : List Da) (l : Addr), i ≠ j → δ[i]? = some (.own ds) → δ[j]? = some (.own es) → σ[i]? = some (some (.ref l)) → σ[j]? ≠ some (some (.ref l))
  bxo : ∀ b, bx = some b → bp = some b ∨ He b = none
  bxt : ∀ b, bx = some b → H b ≠ none ∧ G b = none
  bxp : ∀ b, bp = some b → bx = some b

section
variable {K : PySem.W.Frag} {bp bx : Option Addr} {He G H G' H' : Hp} {σ : L2.St} {δ : List En}
theorem ER.lift (E : ER K bp He bx G H σ δ) (x : Ext none G H G' H') : ER K bp He bx G' H' σ δ := by
  refine ⟨E.len, fun i en h => ?_, E.sep, E.bxo, fun b e => ⟨x.hn b (E.bxt b e).1, (x.gs b (E.bxt b e).1).trans (E.bxt b e).2⟩, E.bxp⟩
  have q := E.at_ i en h
  cases en with
  | any => trivial
  | rep d =>
    obtain ⟨v, e, r⟩ := q
    exact ⟨v, e, r.mono x.gg⟩
  | own ds =>
    obtain ⟨l, vs, e, a, b, c, r, n⟩ := q
    have hn : H l ≠ none := by rw [c]; exact fun z => nomatch z
    exact ⟨l, vs, e, a, (x.gs l hn).trans b, x.hh l _ (fun z => nomatch z) c, r.mono x.gg, n⟩
  | dct ds =>
    obtain ⟨l, vs, e, a, b, c, r, n⟩ := q
    have hn : H l ≠ none := by rw [c]; exact fun z => nomatch z
    exact ⟨l, vs, e, a, (x.gs l hn).trans b, x.hh l _ (fun z => nomatch z) c, r.mono x.gg, n⟩
  | box n =>
    obtain ⟨b, c0, c1, c2, e, e2, g, c, r⟩ := q
    have hn : H b ≠ none := by rw [c]; exact fun z => nomatch z
    exact ⟨b, c0, c1, c2, e, e2, (x.gs b hn).trans g, x.hh b _ (fun z => nomatch z) c, r⟩
theorem ER.notBox {l : Addr} (E : ER K bp He bx G H σ δ) (h : H l = none) : bx ≠ some l := fun z => (E.bxt l z).1 h
theorem ER.rep {i : Nat} {d : Da} (E : ER K bp He bx G H σ δ) (h : δ[i]? = some (.rep d)) : ∃ v, σ[i]? = some (some v) ∧ Rep K G v d := by
  obtain ⟨v, e, r⟩ := E.at_ i _ h
  refine ⟨v, ?_, r⟩
  cases q : σ[i]? with
  | none => rw [q] at e; cases e
  | some o => rw [q] at e; exact congrArg some e
theorem join_some {α : Type} {o : Option (Option α)} {v : α} (h : o.join = some v) : o = some (some v) := by
  cases o with
  | none => cases h
  | some o => exact congrArg some h
theorem ER.ownAt {i : Nat} {ds : List Da} (E : ER K bp He bx G H σ δ) (h : δ[i]? = some (.own ds)) :
    ∃ l vs, σ[i]? = some (some (.ref l)) ∧ He l = none ∧ G l = none ∧ H l = some (.lst vs) ∧ Reps K G vs ds ∧ bx ≠ some l := by
  obtain ⟨l, vs, e, r⟩ := E.at_ i _ h
  exact ⟨l, vs, join_some e, r⟩
theorem ER.dctAt {i : Nat} {ds : List (Key × Da)} (E : ER K bp He bx G H σ δ) (h : δ[i]? = some (.dct ds)) :
    ∃ l vs, σ[i]? = some (some (.ref l)) ∧ He l = none ∧ G l = none ∧ H l = some (.dK vs) ∧ RepK K G vs ds ∧ bx ≠ some l := by
  obtain ⟨l, vs, e, r⟩ := E.at_ i _ h
  exact ⟨l, vs, join_some e, r⟩
theorem ER.boxAt {i : Nat} {n : Nat} (E : ER K bp He bx G H σ δ) (h : δ[i]? = some (.box n)) :
    ∃ b c0 c1 c2, σ[i]? = some (some (.ref b)) ∧ bx = some b ∧ G b = none ∧ H b = some (.lst [.int c0, .int c1, .int c2]) ∧ BoxV c0 c1 c2 n := by
  obtain ⟨b, c0, c1, c2, e, r⟩ := E.at_ i _ h
  exact ⟨b, c0, c1, c2, join_some e, r⟩
/-- a slot gets a value that stands for d -/
theorem ER.set {i : Nat} {v : V} {d : Da} (E : ER K bp He bx G H σ δ) (r : Rep K G v d) : ER K bp He bx G H (σ.set i (some v)) (δ.set i (.rep d)) := by
  refine ⟨by rw [List.length_set, List.length_set, E.len], fun j en h => ?_, fun j k ds es l ne h1 h2 h3 => ?_, E.bxo, E.bxt, E.bxp⟩
  · by_cases hj : i = j
    · subst hj
      by_cases hi : i < δ.length
      · rw [List.getElem?_set_self hi] at h
        cases h
        rw [List.getElem?_set_self (by rw [E.len]; exact hi)]
        exact ⟨v, rfl, r⟩
      · rw [List.getElem?_eq_none (by rw [List.length_set]; omega)] at h
        cases h
    · rw [List.getElem?_set_ne hj] at h ⊢
      exact E.at_ j en h
  · have n1 : i ≠ j := fun z => by
      subst z
      rw [List.getElem?_set] at h1
      split at h1 <;> simp_all
    have n2 : i ≠ k := fun z => by
      subst z
      rw [List.getElem?_set] at h2
      split at h2 <;> simp_all
    rw [List.getElem?_set_ne n1] at h1 h3
    rw [List.getElem?_set_ne n2] at h2 ⊢
    exact E.sep j k ds es l ne h1 h2 h3
/-- a slot gets a new list of one's own -/
theorem ER.setOwn {i : Nat} {l : Addr} {vs : List V} {ds : List Da} (E : ER K bp He bx G H σ δ) (hl : He l = none) (hg : G l = none) (hh : H l = some (.lst vs)) (r : Reps K G vs ds) (hb : bx ≠ some l)
    (new : ∀ (j : Nat) (es : List Da), δ[j]? = some (.own es) → σ[j]? ≠ some (some (.ref l))) : ER K bp He bx G H (σ.set i (some (.ref l))) (δ.set i (.own ds)) := by
  refine ⟨by rw [List.length_set, List.length_set, E.len], fun j en h => ?_, fun j k ds' es' l' ne h1 h2 h3 => ?_, E.bxo, E.bxt, E.bxp⟩
  · by_cases hj : i = j
    · subst hj
      by_cases hi : i < δ.length
      · rw [List.getElem?_set_self hi] at h
        cases h
        rw [List.getElem?_set_self (by rw [E.len]; exact hi)]
        exact ⟨l, vs, rfl, hl, hg, hh, r, hb⟩
      · rw [List.getElem?_eq_none (by rw [List.length_set]; omega)] at h
        cases h
    · rw [List.getElem?_set_ne hj] at h ⊢
      exact E.at_ j en h
  · by_cases hj : i = j
    · subst hj
      rw [List.getElem?_set_ne ne] at h2 ⊢
      by_cases hi : i < σ.length
      · rw [List.getElem?_set_self hi] at h3
        cases h3
        exact new k es' h2
      · rw [List.getElem?_eq_none (by rw [List.length_set]; omega)] at h3
        cases h3
    · rw [List.getElem?_set_ne hj] at h1 h3
      by_cases hk : i = k
      · subst hk
        intro z
        by_cases hi : i < σ.length
        · rw [List.getElem?_set_self hi] at z
          cases z
          exact new j ds' h1 h3
        · rw [List.getElem?_eq_none (by rw [List.length_set]; omega)] at z
          cases z
      · rw [List.getElem?_set_ne hk] at h2 ⊢
        exact E.sep j k ds' es' l' ne h1 h2 h3
end
end R
set_option maxHeartbeats 4123456
/-! R1: judgements. -/
namespace R
open PySem L2

theorem Ext.mut {bx : Option Addr} {G H G' H' : Hp} {p : Addr} {o : HO} (x : Ext bx G H G' H') (hp : H p = none) (hg : G' p = none) : Ext bx G H G' (upd H' p o) := by
  refine ⟨x.gg, fun a u n e => ?_, fun a e => ?_, x.gs, fun a u e => ?_⟩
  · rw [upd_ne (ne_of_none e hp)]; exact x.hh a u n e
  · by_cases h : a = p
    · rw [h, upd_same]; exact fun z => nomatch z
    · rw [upd_ne h]; exact x.hn a e
  · rw [upd_ne (ne_of_none e hg)]; exact x.le a u e
/-- the box is written -/
theorem Ext.boxed {G H : Hp} {b : Addr} {o : HO} (le : Same G H) (hg : G b = none) (hb : H b ≠ none) : Ext (some b) G H G (upd H b o) := by
  refine ⟨Same.refl G, fun a u n e => ?_, fun a e => ?_, fun _ _ => rfl, fun a u e => ?_⟩
  · rw [upd_ne (fun z => n (by rw [z]))]; exact e
  · by_cases h : a = b
    · rw [h, upd_same]; exact fun z => nomatch z
    · rw [upd_ne h]; exact e
  · rw [upd_ne (ne_of_none e hg)]; exact le a u e
/-- what one owns becomes known -/
theorem Ext.known {bx : Option Addr} {G H G' H' : Hp} {p : Addr} {o : HO} (x : Ext bx G H G' H') (hp : H p = none) (hg : G' p = none) (hh : H' p = some o) : Ext bx G H (upd G' p o) H' := by
  refine ⟨fun a u e => ?_, x.hh, x.hn, fun a e => ?_, fun a u e => ?_⟩
  · have q := x.gg a u e
    rw [upd_ne (ne_of_none q hg)]; exact q
  · rw [upd_ne (fun z => e (by rw [z]; exact hp))]; exact x.gs a e
  · by_cases h : a = p
    · rw [h, upd_same] at e; cases e; rw [h]; exact hh
    · rw [upd_ne h] at e; exact x.le a u e
theorem same_known {G : Hp} {p : Addr} {o : HO} (hg : G p = none) : Same G (upd G p o) := fun a u e => by
  rw [upd_ne (ne_of_none e hg)]; exact e
theorem Ext.join {bp bx : Option Addr} {Ge He G H G' H' : Hp} (x : Ext bp Ge He G H) (ok : ∀ b, bx = some b → bp = some b ∨ He b = none) (y : Ext bx G H G' H') : Ext bp Ge He G' H' := by
  refine ⟨x.gg.trans y.gg, fun a o n e => y.hh a o (fun z => ?_) (x.hh a o n e), fun a e => y.hn a (x.hn a e), fun a e => (y.gs a (x.hn a e)).trans (x.gs a e), y.le⟩
  rcases ok a z with q | q
  · exact n q
  · rw [q] at e; cases e

/-- c more draws from the box -/
def bmp1 (c : Nat) : En → En
  | .box n => .box (n + c)
  | e => e
def bmp (c : Nat) (δ : List En) : List En := δ.map (bmp1 c)
theorem bmp1_zero : ∀ e : En, bmp1 0 e = e
  | .any => rfl
  | .dct _ => rfl
  | .rep _ => rfl
  | .own _ => rfl
  | .box _ => rfl
theorem bmp_zero (δ : List En) : bmp 0 δ = δ := by
  unfold bmp
  have : (bmp1 0) = id := funext bmp1_zero
  rw [this, List.map_id]
theorem bmp1_add (a b : Nat) : ∀ e : En, bmp1 b (bmp1 a e) = bmp1 (a + b) e
  | .any => rfl
  | .dct _ => rfl
  | .rep _ => rfl
  | .own _ => rfl
  | .box n => congrArg En.box (Nat.add_assoc n a b)
theorem bmp_bmp (a b : Nat) (δ : List En) : bmp b (bmp a δ) = bmp (a + b) δ := by
  unfold bmp
  rw [List.map_map]
  congr 1
  funext e
  exact bmp1_add a b e
theorem bmp_get (c : Nat) (δ : List En) (i : Nat) : (bmp c δ)[i]? = (δ[i]?).map (bmp1 c) := by unfold bmp; rw [List.getElem?_map]
theorem bmp_own {c : Nat} {δ : List En} {i : Nat} {ds : List Da} (h : (bmp c δ)[i]? = some (.own ds)) : δ[i]? = some (.own ds) := by
  rw [bmp_get] at h
  cases e : δ[i]? with
  | none => rw [e] at h; cases h
  | some en => rw [e] at h; cases en <;> first | (cases h; rfl) | cases h
theorem bmp_dct {c : Nat} {δ : List En} {i : Nat} {ds : List (Key × Da)} (h : (bmp c δ)[i]? = some (.dct ds)) : δ[i]? = some (.dct ds) := by
  rw [bmp_get] at h
  cases e : δ[i]? with
  | none => rw [e] at h; cases h
  | some en => rw [e] at h; cases en <;> first | (cases h; rfl) | cases h
theorem bmp_rep {c : Nat} {δ : List En} {i : Nat} {d : Da} (h : (bmp c δ)[i]? = some (.rep d)) : δ[i]? = some (.rep d) := by
  rw [bmp_get] at h
  cases e : δ[i]? with
  | none => rw [e] at h; cases h
  | some en => rw [e] at h; cases en <;> first | (cases h; rfl) | cases h
theorem bmp_box {c : Nat} {δ : List En} {i n : Nat} (h : (bmp c δ)[i]? = some (.box n)) : ∃ m, n = m + c ∧ δ[i]? = some (.box m) := by
  rw [bmp_get] at h
  cases e : δ[i]? with
  | none => rw [e] at h; cases h
  | some en => rw [e] at h; cases en <;> first | (cases h; exact ⟨_, rfl, rfl⟩) | cases h
theorem BoxV.mono {c0 c1 c2 : Int} {n m : Nat} (h : BoxV c0 c1 c2 n) (l : n ≤ m) : BoxV c0 c1 c2 m := by
  obtain ⟨a, b, c, d, e⟩ := h
  exact ⟨a, b, c, d, by omega⟩
/-- at most c draws from the box -/
def BoxStep (bx : Option Addr) (H H' : Hp) (c : Nat) : Prop := ∀ b c0 c1 c2 n, bx = some b → H b = some (.lst [.int c0, .int c1, .int c2]) → BoxV c0 c1 c2 n → ∃ e0 e1 e2, H' b = some (.lst [.int e0, .int e1, .int e2]) ∧ BoxV e0 e1 e2 (n + c)
theorem BoxStep.trans {bx : Option Addr} {H H1 H2 : Hp} {a b : Nat} (x : BoxStep bx H H1 a) (y : BoxStep bx H1 H2 b) : BoxStep bx H H2 (a + b) := fun p c0 c1 c2 n e h v => by
  obtain ⟨d0, d1, d2, h1, v1⟩ := x p c0 c1 c2 n e h v
  obtain ⟨e0, e1, e2, h2, v2⟩ := y p d0 d1 d2 _ e h1 v1
  exact ⟨e0, e1, e2, h2, by rw [← Nat.add_assoc]; exact v2⟩
theorem BoxStep.mono {bx : Option Addr} {H H' : Hp} {a b : Nat} (x : BoxStep bx H H' a) (l : a ≤ b) : BoxStep bx H H' b := fun p c0 c1 c2 n e h v => by
  obtain ⟨e0, e1, e2, h2, v2⟩ := x p c0 c1 c2 n e h v
  exact ⟨e0, e1, e2, h2, v2.mono (Nat.add_le_add_left l n)⟩
theorem Ext.boxStep {bx : Option Addr} {G H G' H' : Hp} (x : Ext none G H G' H') (c : Nat) : BoxStep bx H H' c := fun p c0 c1 c2 n e h v =>
  ⟨c0, c1, c2, x.hh p _ (fun z => nomatch z) h, v.mono (Nat.le_add_right _ _)⟩
theorem BoxStep.upd {bx : Option Addr} {H H' : Hp} {c : Nat} {p : Addr} {o : HO} (x : BoxStep bx H H' c) (h : bx ≠ some p) : BoxStep bx H (L2.upd H' p o) c := fun b c0 c1 c2 n e hb v => by
  obtain ⟨e0, e1, e2, h2, v2⟩ := x b c0 c1 c2 n e hb v
  exact ⟨e0, e1, e2, by rw [upd_ne (fun z => h (by rw [e, z]))]; exact h2, v2⟩
/-- the environment behind a step that draws: the slots as they were, the box as it is now -/
theorem ER.step {K : PySem.W.Frag} {bp bx : Option Addr} {He G H G' H' : Hp} {σ : L2.St} {δ : List En} {c : Nat} (E : ER K bp He bx G H σ δ) (x : Ext bx G H G' H')
    (hb : BoxStep bx H H' c) : ER K bp He bx G' H' σ (bmp c δ) := by
  refine ⟨by unfold bmp; rw [List.length_map]; exact E.len, fun i en h => ?_, fun i j ds es l ne h1 h2 h3 => E.sep i j ds es l ne (bmp_own h1) (bmp_own h2) h3, E.bxo, fun b e => ⟨x.hn b (E.bxt b e).1, (x.gs b (E.bxt b e).1).trans (E.bxt b e).2⟩, E.bxp⟩
  cases en with
  | any => trivial
  | rep d =>
    obtain ⟨v, e, r⟩ := E.at_ i _ (bmp_rep h)
    exact ⟨v, e, r.mono x.gg⟩
  | own ds =>
    obtain ⟨l, vs, e, a, b, c, r, n⟩ := E.at_ i _ (bmp_own h)
    have hn : H l ≠ none := by rw [c]; exact fun z => nomatch z
    exact ⟨l, vs, e, a, (x.gs l hn).trans b, x.hh l _ n c, r.mono x.gg, n⟩
  | dct ds =>
    obtain ⟨l, vs, e, a, b, c, r, n⟩ := E.at_ i _ (bmp_dct h)
    have hn : H l ≠ none := by rw [c]; exact fun z => nomatch z
    exact ⟨l, vs, e, a, (x.gs l hn).trans b, x.hh l _ n c, r.mono x.gg, n⟩
  | box n =>
    obtain ⟨m, rfl, h'⟩ := bmp_box h
    obtain ⟨b, c0, c1, c2, e, e2, g, cc, r⟩ := E.at_ i _ h'
    have hn : H b ≠ none := by rw [cc]; exact fun z => nomatch z
    obtain ⟨f0, f1, f2, q1, q2⟩ := hb b c0 c1 c2 m e2 cc r
    exact ⟨b, f0, f1, f2, e, e2, (x.gs b hn).trans g, q1, q2⟩

section
variable (K : PySem.W.Frag)
/-- the expression denotes d -/
def Evd (te : TE) (δ : List En) (d : Da) : Prop := ∀ bp He bx σ G H, Same G H → ER K bp He bx G H σ δ → ∀ Q : VK, (∀ v G' H', Ext none G H G' H' → Rep K G' v d → Q v H') → te σ H Q
/-- .. a new list, not known as yet -/
def EvO (te : TE) (δ : List En) (ds : List Da) : Prop := ∀ bp He bx σ G H, Same G H → ER K bp He bx G H σ δ → ∀ Q : VK,
  (∀ l vs G' H', Ext none G H G' H' → H l = none → G' l = none → H' l = some (.lst vs) → Reps K G' vs ds → Q (.ref l) H') → te σ H Q
def EvdA (ta : TA) (δ : List En) (ds : List Da) : Prop := ∀ bp He bx σ G H, Same G H → ER K bp He bx G H σ δ → ∀ Q : List V → Hp → Prop, (∀ vs G' H', Ext none G H G' H' → Reps K G' vs ds → Q vs H') → ta σ H Q
def Tvd (tt : TT) (δ : List En) (b : Bool) : Prop := ∀ bp He bx σ G H, Same G H → ER K bp He bx G H σ δ → ∀ Q : Bool → Hp → Prop, (∀ G' H', Ext none G H G' H' → Q b H') → tt σ H Q
def Ovd (to : TO) (δ : List En) (o : Option Int) : Prop := ∀ bp He bx σ G H, Same G H → ER K bp He bx G H σ δ → ∀ Q : Option Int → Hp → Prop, (∀ G' H', Ext none G H G' H' → Q o H') → to σ H Q
/-- with the box drawn from: some datum of P, the environment behind it -/
def Eve (te : TE) (δ : List En) (c : Nat) (P : Da → Prop) : Prop := ∀ bp He bx σ G H, Same G H → ER K bp He bx G H σ δ → ∀ Q : VK,
  (∀ v d G' H', Ext bx G H G' H' → BoxStep bx H H' c → Rep K G' v d → P d → Q v H') → te σ H Q
def EveO (te : TE) (δ : List En) (c : Nat) (P : List Da → Prop) : Prop := ∀ bp He bx σ G H, Same G H → ER K bp He bx G H σ δ → ∀ Q : VK,
  (∀ l vs ds G' H', bx ≠ some l → Ext bx G H G' H' → BoxStep bx H H' c → H l = none → G' l = none → H' l = some (.lst vs) → Reps K G' vs ds → P ds → Q (.ref l) H') → te σ H Q
def EveA (ta : TA) (δ : List En) (c : Nat) (P : List Da → Prop) : Prop := ∀ bp He bx σ G H, Same G H → ER K bp He bx G H σ δ → ∀ Q : List V → Hp → Prop,
  (∀ vs ds G' H', Ext bx G H G' H' → BoxStep bx H H' c → Reps K G' vs ds → P ds → Q vs H') → ta σ H Q
def Tve (tt : TT) (δ : List En) (c : Nat) (P : Bool → Prop) : Prop := ∀ bp He bx σ G H, Same G H → ER K bp He bx G H σ δ → ∀ Q : Bool → Hp → Prop,
  (∀ b G' H', Ext bx G H G' H' → BoxStep bx H H' c → P b → Q b H') → tt σ H Q
/-- operations on values -/
def Op2 (r : R2) (d1 d2 d : Da) : Prop := ∀ v1 v2 G H, Same G H → Rep K G v1 d1 → Rep K G v2 d2 → ∀ Q : VK, (∀ v G' H', Ext none G H G' H' → Rep K G' v d → Q v H') → r v1 v2 H Q
def Op2O (r : R2) (d1 d2 : Da) (ds : List Da) : Prop := ∀ v1 v2 G H, Same G H → Rep K G v1 d1 → Rep K G v2 d2 → ∀ Q : VK,
  (∀ l vs G' H', Ext none G H G' H' → H l = none → G' l = none → H' l = some (.lst vs) → Reps K G' vs ds → Q (.ref l) H') → r v1 v2 H Q
def Op1 (r : V → Hp → VK → Prop) (d1 d : Da) : Prop := ∀ v1 G H, Same G H → Rep K G v1 d1 → ∀ Q : VK, (∀ v G' H', Ext none G H G' H' → Rep K G' v d → Q v H') → r v1 H Q
def Opn (r : List V → Hp → VK → Prop) (es : List Da) (d : Da) : Prop := ∀ vs G H, Same G H → Reps K G vs es → ∀ Q : VK, (∀ v G' H', Ext none G H G' H' → Rep K G' v d → Q v H') → r vs H Q
def OpnO (r : List V → Hp → VK → Prop) (es : List Da) (ds : List Da) : Prop := ∀ vs G H, Same G H → Reps K G vs es → ∀ Q : VK,
  (∀ l vs G' H', Ext none G H G' H' → H l = none → G' l = none → H' l = some (.lst vs) → Reps K G' vs ds → Q (.ref l) H') → r vs H Q
/-- a method on values -/
def Opm (r : V → List V → Hp → VK → Prop) (d0 : Da) (es : List Da) (d : Da) : Prop := ∀ v vs G H, Same G H → Rep K G v d0 → Reps K G vs es → ∀ Q : VK, (∀ v G' H', Ext none G H G' H' → Rep K G' v d → Q v H') → r v vs H Q
end

section
variable {K : PySem.W.Frag} {δ δ' δ1 δ2 : List En} {ta tb te tx : TE} {t u : TT} {d d1 d2 : Da} {ds es : List Da} {r : R2}

theorem EvO.frz (h : EvO K te δ ds) : Evd K te δ (.lst ds) := fun bp He bx σ G H le E Q q =>
  h bp He bx σ G H le E Q fun l vs G' H' x n1 n2 n3 rr => q _ _ _ (x.known n1 n2 n3) (.lst upd_same (rr.mono (same_known n2)))
theorem Evd.eve (h : Evd K te δ d) : Eve K te δ 0 (· = d) := fun bp He bx σ G H le E Q q =>
  h bp He bx σ G H le E Q fun v G' H' x r => q v d G' H' x.none_to (x.boxStep 0) r rfl
theorem EvO.eve (h : EvO K te δ ds) : EveO K te δ 0 (· = ds) := fun bp He bx σ G H le E Q q =>
  h bp He bx σ G H le E Q fun l vs G' H' x n1 n2 n3 r => q l vs ds G' H' (E.notBox n1) x.none_to (x.boxStep 0) n1 n2 n3 r rfl
theorem EvdA.eve {ta : TA} (h : EvdA K ta δ ds) : EveA K ta δ 0 (· = ds) := fun bp He bx σ G H le E Q q =>
  h bp He bx σ G H le E Q fun v G' H' x r => q v ds G' H' x.none_to (x.boxStep 0) r rfl
theorem Tvd.eve {b : Bool} (h : Tvd K t δ b) : Tve K t δ 0 (· = b) := fun bp He bx σ G H le E Q q =>
  h bp He bx σ G H le E Q fun G' H' x => q b G' H' x.none_to (x.boxStep 0) rfl
theorem Eve.mono {c : Nat} {P P' : Da → Prop} (h : Eve K te δ c P) (k : ∀ d, P d → P' d) : Eve K te δ c P' := fun bp He bx σ G H le E Q q =>
  h bp He bx σ G H le E Q fun v d G' H' x E' r p => q v d G' H' x E' r (k d p)
theorem EveO.mono {c : Nat} {P P' : List Da → Prop} (h : EveO K te δ c P) (k : ∀ d, P d → P' d) : EveO K te δ c P' := fun bp He bx σ G H le E Q q =>
  h bp He bx σ G H le E Q fun l vs ds G' H' nb x E' n1 n2 n3 r p => q l vs ds G' H' nb x E' n1 n2 n3 r (k ds p)
theorem Evd.is (h : Evd K te δ d) (e : d = d1) : Evd K te δ d1 := e ▸ h
theorem EvO.is (h : EvO K te δ ds) (e : ds = es) : EvO K te δ es := e ▸ h
theorem Tvd.is {b c : Bool} (h : Tvd K t δ b) (e : b = c) : Tvd K t δ c := e ▸ h
theorem EveO.frz {c : Nat} {P : List Da → Prop} (h : EveO K te δ c P) : Eve K te δ c (fun d => ∃ ds, d = .lst ds ∧ P ds) := fun bp He bx σ G H le E Q q =>
  h bp He bx σ G H le E Q fun l vs ds G' H' nb x b n1 n2 n3 r p => q _ (.lst ds) _ _ (x.known n1 n2 n3) b (.lst upd_same (r.mono (same_known n2))) ⟨ds, rfl, p⟩
theorem Eve.le {c c' : Nat} {P : Da → Prop} (h : Eve K te δ c P) (l : c ≤ c') : Eve K te δ c' P := fun bp He bx σ G H le E Q q =>
  h bp He bx σ G H le E Q fun v d G' H' x b r p => q v d G' H' x (b.mono l) r p
theorem EveO.le {c c' : Nat} {P : List Da → Prop} (h : EveO K te δ c P) (l : c ≤ c') : EveO K te δ c' P := fun bp He bx σ G H le E Q q =>
  h bp He bx σ G H le E Q fun v vs ds G' H' nb x b n1 n2 n3 r p => q v vs ds G' H' nb x (b.mono l) n1 n2 n3 r p
end
end R
set_option maxHeartbeats 4123456
/-! R2: pure expressions. -/
namespace R
open PySem L2
section
variable {K : PySem.W.Frag} {δ δ1 : List En} {ta tb tc te tx : TE} {t u : TT} {d d0 d1 d2 d3 : Da} {ds es : List Da} {r r' : R2}

theorem evd_var {i : Nat} (h : δ[i]? = some (.rep d)) : Evd K (tVar i) δ d := fun bp He bx σ G H le E Q q => by
  obtain ⟨v, e, r⟩ := E.rep h
  exact ⟨v, e, q v G H (Ext.refl le) r⟩
theorem evd_int {i : Int} : Evd K (tC (.int i)) δ (.int i) := fun bp He bx σ G H le E Q q => q _ G H (Ext.refl le) (.int i)
theorem evd_str {x : Str} : Evd K (tC (.str x)) δ (.str x) := fun bp He bx σ G H le E Q q => q _ G H (Ext.refl le) (.str x)
theorem evd_bl {b : Bool} : Evd K (tC (.bl b)) δ (.bl b) := fun bp He bx σ G H le E Q q => q _ G H (Ext.refl le) (.bl b)
theorem evd_non : Evd K (tC .non) δ .non := fun bp He bx σ G H le E Q q => q _ G H (Ext.refl le) .non
theorem evd_c {v : V} (h : ∀ G, Rep K G v d) : Evd K (tC v) δ d := fun bp He bx σ G H le E Q q => q _ G H (Ext.refl le) (h G)
theorem evd_op (ha : Evd K ta δ d1) (hb : Evd K tb δ d2) (hr : Op2 K r d1 d2 d) : Evd K (tOp r ta tb) δ d := fun bp He bx σ G H le E Q q =>
  ha bp He bx σ G H le E _ fun v1 G1 H1 x1 r1 => hb bp He bx σ G1 H1 x1.le (E.lift x1) _ fun v2 G2 H2 x2 r2 =>
    hr v1 v2 G2 H2 x2.le (r1.mono x2.gg) r2 Q fun v G3 H3 x3 r3 => q v G3 H3 ((x1.trans x2).trans x3) r3
theorem evo_op (ha : Evd K ta δ d1) (hb : Evd K tb δ d2) (hr : Op2O K r d1 d2 ds) : EvO K (tOp r ta tb) δ ds := fun bp He bx σ G H le E Q q =>
  ha bp He bx σ G H le E _ fun v1 G1 H1 x1 r1 => hb bp He bx σ G1 H1 x1.le (E.lift x1) _ fun v2 G2 H2 x2 r2 =>
    hr v1 v2 G2 H2 x2.le (r1.mono x2.gg) r2 Q fun l vs G3 H3 x3 n1 n2 n3 r3 => by
      have n0 : H l = none := by
        cases e : H l with
        | none => rfl
        | some o =>
          have z := (x1.trans x2).hh l o (fun y => nomatch y) e
          rw [n1] at z; cases z
      exact q l vs G3 H3 ((x1.trans x2).trans x3) n0 n2 n3 r3
theorem Ext.free {G H G' H' : Hp} {l : Addr} (x : Ext none G H G' H') (h : H' l = none) : H l = none := by
  cases e : H l with
  | none => rfl
  | some o =>
    have z := x.hh l o (fun y => nomatch y) e
    rw [h] at z; cases z
theorem evd_un {r : V → Hp → VK → Prop} (ha : Evd K ta δ d1) (hr : Op1 K r d1 d) : Evd K (tUn r ta) δ d := fun bp He bx σ G H le E Q q =>
  ha bp He bx σ G H le E _ fun v1 G1 H1 x1 r1 => hr v1 G1 H1 x1.le r1 Q fun v G3 H3 x3 r3 => q v G3 H3 (x1.trans x3) r3
theorem eva_nil : EvdA K tNil δ [] := fun bp He bx σ G H le E Q q => q _ G H (Ext.refl le) .nil
theorem eva_cons {tr : TA} (h : Evd K ta δ d) (hr : EvdA K tr δ ds) : EvdA K (tCons ta tr) δ (d :: ds) := fun bp He bx σ G H le E Q q =>
  h bp He bx σ G H le E _ fun v1 G1 H1 x1 r1 => hr bp He bx σ G1 H1 x1.le (E.lift x1) _ fun vs G2 H2 x2 r2 => q _ G2 H2 (x1.trans x2) (.cons (r1.mono x2.gg) r2)
theorem evd_cb {r : List V → Hp → VK → Prop} {ta : TA} (ha : EvdA K ta δ es) (hr : Opn K r es d) : Evd K (tCB r ta) δ d := fun bp He bx σ G H le E Q q =>
  ha bp He bx σ G H le E _ fun vs G1 H1 x1 r1 => hr vs G1 H1 x1.le r1 Q fun v G3 H3 x3 r3 => q v G3 H3 (x1.trans x3) r3
theorem evo_cb {r : List V → Hp → VK → Prop} {ta : TA} (ha : EvdA K ta δ es) (hr : OpnO K r es ds) : EvO K (tCB r ta) δ ds := fun bp He bx σ G H le E Q q =>
  ha bp He bx σ G H le E _ fun vs G1 H1 x1 r1 => hr vs G1 H1 x1.le r1 Q fun l ws G3 H3 x3 n1 n2 n3 r3 => q l ws G3 H3 (x1.trans x3) (x1.free n1) n2 n3 r3
theorem len_line {n : Nat} (h : n ≤ 100000) : n ≤ sizeLine := Nat.le_trans h (by decide)
theorem len_lt {n : Nat} (h : n < 100000) : n < sizeLine := Nat.lt_of_lt_of_le h (by decide)
theorem evd_tup {ta : TA} (h : EvdA K ta δ ds) (hl : ds.length ≤ 100000) : Evd K (tTup ta) δ (.tup ds) := fun bp He bx σ G H le E Q q =>
  h bp He bx σ G H le E _ fun vs G1 H1 x1 r1 => ⟨by rw [r1.len]; exact len_line hl, fun p hp => q (.ref p) _ _ (x1.trans (Ext.new x1.le hp)) (.tup (SqT.of upd_same) (r1.mono (same_known (x1.le.free hp))))⟩
theorem evo_lst {ta : TA} (h : EvdA K ta δ ds) (hl : ds.length ≤ 100000) : EvO K (tLst ta) δ ds := fun bp He bx σ G H le E Q q =>
  h bp He bx σ G H le E _ fun vs G1 H1 x1 r1 => ⟨by rw [r1.len]; exact len_line hl, fun p hp => q p vs G1 _ (x1.trans (Ext.own x1.le hp)) (x1.free hp) (x1.le.free hp) upd_same r1⟩

/-! tests -/
theorem Rep.blI {G : Hp} {v : V} {b : Bool} (h : Rep K G v (.bl b)) : v = .bl b := by cases h; rfl
theorem Rep.intI {G : Hp} {v : V} {b : Int} (h : Rep K G v (.int b)) : v = .int b := by cases h; rfl
theorem Rep.strI {G : Hp} {v : V} {b : Str} (h : Rep K G v (.str b)) : v = .str b := by cases h; rfl
theorem Rep.nonI {G : Hp} {v : V} (h : Rep K G v .non) : v = .non := by cases h; rfl
theorem tvd_test {b : Bool} (h : Evd K te δ (.bl b)) : Tvd K (tTest te) δ b := fun bp He bx σ G H le E Q q =>
  h bp He bx σ G H le E _ fun v G1 H1 x1 r1 => ⟨b, r1.blI, q G1 H1 x1⟩
theorem tvd_B {b : Bool} (h : Evd K te δ (.bl b)) : Tvd K (tB te) δ b := fun bp He bx σ G H le E Q q =>
  h bp He bx σ G H le E _ fun v G1 H1 x1 r1 => ⟨b, r1.blI, q G1 H1 x1⟩
theorem tvd_and {a b : Bool} (h1 : Tvd K t δ a) (h2 : a = true → Tvd K u δ b) : Tvd K (tAnd t u) δ (a && b) := fun bp He bx σ G H le E Q q =>
  h1 bp He bx σ G H le E _ fun G1 H1 x1 => by
    cases a with
    | true => exact iteT (h2 rfl bp He bx σ G1 H1 x1.le (E.lift x1) _ fun G2 H2 x2 => q G2 H2 (x1.trans x2))
    | false => exact iteF (q G1 H1 x1)
theorem tvd_or {a b : Bool} (h1 : Tvd K t δ a) (h2 : a = false → Tvd K u δ b) : Tvd K (tOr t u) δ (a || b) := fun bp He bx σ G H le E Q q =>
  h1 bp He bx σ G H le E _ fun G1 H1 x1 => by
    cases a with
    | true => exact iteT (q G1 H1 x1)
    | false => exact iteF (h2 rfl bp He bx σ G1 H1 x1.le (E.lift x1) _ fun G2 H2 x2 => q G2 H2 (x1.trans x2))
theorem tvd_not {a : Bool} (h1 : Tvd K t δ a) : Tvd K (tNot t) δ (!a) := fun bp He bx σ G H le E Q q => h1 bp He bx σ G H le E _ fun G1 H1 x1 => q G1 H1 x1
theorem tvd_yes : Tvd K tYes δ true := fun bp He bx σ G H le E Q q => q G H (Ext.refl le)
theorem evd_andV {a : Bool} {d : Da} (h1 : Evd K ta δ (.bl a)) (h2 : a = true → Evd K tb δ d) (h3 : a = false → d = .bl false) : Evd K (tAndV ta tb) δ d := fun bp He bx σ G H le E Q q =>
  h1 bp He bx σ G H le E _ fun v G1 H1 x1 r1 => ⟨a, r1.blI, by
    cases a with
    | true => exact iteT (h2 rfl bp He bx σ G1 H1 x1.le (E.lift x1) _ fun v G2 H2 x2 r2 => q v G2 H2 (x1.trans x2) r2)
    | false => rw [h3 rfl] at q; exact iteF (q _ G1 H1 x1 (.bl false))⟩
theorem evd_and {a b : Bool} (h1 : Evd K ta δ (.bl a)) (h2 : a = true → Evd K tb δ (.bl b)) : Evd K (tAndV ta tb) δ (.bl (a && b)) :=
  evd_andV h1 (fun e => by subst e; exact h2 rfl) (fun e => by subst e; rfl)
theorem evd_orV {a : Bool} {d : Da} (h1 : Evd K ta δ (.bl a)) (h2 : a = false → Evd K tb δ d) (h3 : a = true → d = .bl true) : Evd K (tOrV ta tb) δ d := fun bp He bx σ G H le E Q q =>
  h1 bp He bx σ G H le E _ fun v G1 H1 x1 r1 => ⟨a, r1.blI, by
    cases a with
    | false => exact iteF (h2 rfl bp He bx σ G1 H1 x1.le (E.lift x1) _ fun v G2 H2 x2 r2 => q v G2 H2 (x1.trans x2) r2)
    | true => rw [h3 rfl] at q; exact iteT (q _ G1 H1 x1 (.bl true))⟩
theorem evd_or {a b : Bool} (h1 : Evd K ta δ (.bl a)) (h2 : a = false → Evd K tb δ (.bl b)) : Evd K (tOrV ta tb) δ (.bl (a || b)) :=
  evd_orV h1 (fun e => by subst e; exact h2 rfl) (fun e => by subst e; rfl)
theorem evd_notV {a : Bool} (h1 : Evd K ta δ (.bl a)) : Evd K (tNotV ta) δ (.bl (!a)) := fun bp He bx σ G H le E Q q =>
  h1 bp He bx σ G H le E _ fun v G1 H1 x1 r1 => ⟨a, r1.blI, q _ G1 H1 x1 (.bl _)⟩
theorem evd_if {b : Bool} (h : Tvd K t δ b) (h1 : b = true → Evd K ta δ d) (h2 : b = false → Evd K tb δ d) : Evd K (tIf t ta tb) δ d := fun bp He bx σ G H le E Q q =>
  h bp He bx σ G H le E _ fun G1 H1 x1 => by
    cases b with
    | true => exact iteT (h1 rfl bp He bx σ G1 H1 x1.le (E.lift x1) _ fun v G2 H2 x2 r2 => q v G2 H2 (x1.trans x2) r2)
    | false => exact iteF (h2 rfl bp He bx σ G1 H1 x1.le (E.lift x1) _ fun v G2 H2 x2 r2 => q v G2 H2 (x1.trans x2) r2)
theorem evd_chain {a b : Bool} (h1 : Evd K ta δ d1) (h2 : Evd K tb δ d2) (h3 : a = true → Evd K tc δ d3) (o1 : Op2 K r d1 d2 (.bl a)) (o2 : a = true → Op2 K r' d2 d3 (.bl b)) : Evd K (tChain r r' ta tb tc) δ (.bl (a && b)) :=
  fun bp He bx σ G H le E Q q => h1 bp He bx σ G H le E _ fun v1 G1 H1 x1 r1 => h2 bp He bx σ G1 H1 x1.le (E.lift x1) _ fun v2 G2 H2 x2 r2 =>
    o1 v1 v2 G2 H2 x2.le (r1.mono x2.gg) r2 _ fun v G3 H3 x3 r3 => ⟨a, r3.blI, by
      have x := (x1.trans x2).trans x3
      cases a with
      | true => exact iteT (h3 rfl bp He bx σ G3 H3 x3.le (E.lift x) _ fun v3 G4 H4 x4 r4 => o2 rfl v2 v3 G4 H4 x4.le (r2.mono (x3.trans x4).gg) r4 _ fun v G5 H5 x5 r5 => q v G5 H5 ((x.trans x4).trans x5) r5)
      | false => exact iteF (q _ G3 H3 x (.bl _))⟩

/-! ### operators -/
theorem op2_I0 {g : Int → Int → Int} {i j : Int} : Op2 K (rI0 fun i j => .int (g i j)) (.int i) (.int j) (.int (g i j)) := fun v1 v2 G H le r1 r2 Q q =>
  ⟨i, j, r1.intI, r2.intI, q _ G H (Ext.refl le) (.int _)⟩
theorem op2_B0 {g : Int → Int → Bool} {i j : Int} : Op2 K (rI0 fun i j => .bl (g i j)) (.int i) (.int j) (.bl (g i j)) := fun v1 v2 G H le r1 r2 Q q =>
  ⟨i, j, r1.intI, r2.intI, q _ G H (Ext.refl le) (.bl _)⟩
theorem op2_I {C : Int → Int → Prop} {g : Int → Int → Int} {i j : Int} (h : C i j) : Op2 K (rI C fun i j => .int (g i j)) (.int i) (.int j) (.int (g i j)) := fun v1 v2 G H le r1 r2 Q q =>
  ⟨i, j, r1.intI, r2.intI, h, q _ G H (Ext.refl le) (.int _)⟩
theorem op1_I {g : Int → Int} {i : Int} : Op1 K (rU fun i => .int (g i)) (.int i) (.int (g i)) := fun v1 G H le r1 Q q => ⟨i, r1.intI, q _ G H (Ext.refl le) (.int _)⟩
/-- flat data as values -/
def flatD : Da → Bool
  | .non => true | .bl _ => true | .int _ => true | .str _ => true | _ => false
def toV : Da → V
  | .non => .non | .bl b => .bl b | .int i => .int i | .str x => .str x | _ => .non
theorem Rep.flat {G : Hp} {v : V} {d : Da} (h : Rep K G v d) (f : flatD d = true) : v = toV d := by
  cases h <;> first | rfl | exact absurd f (by decide) | (cases f)
theorem Rep.of_flat {G G' : Hp} {v : V} {d : Da} (h : Rep K G v d) (f : flatD d = true) : Rep K G' v d := by
  cases h <;> first | (cases f; done) | exact .non | exact .bl _ | exact .int _ | exact .str _
theorem rep_toV {G : Hp} {d : Da} (f : flatD d = true) : Rep K G (toV d) d := by
  cases d <;> first | (cases f; done) | exact .non | exact .bl _ | exact .int _ | exact .str _
theorem Reps.flat {G : Hp} : ∀ {vs : List V} {ds : List Da}, Reps K G vs ds → ds.all flatD = true → vs = ds.map toV
  | _, _, .nil, _ => rfl
  | _, _, .cons h r, f => by
    rw [List.all_cons, Bool.and_eq_true] at f
    rw [List.map_cons, ← h.flat f.1, ← r.flat f.2]
theorem op2_eqI {i j : Int} : Op2 K rEq (.int i) (.int j) (.bl (decide (i = j))) := fun v1 v2 G H le r1 r2 Q q => by
  rw [r1.intI, r2.intI]
  refine ⟨rfl, ?_⟩
  rw [show decide (V.int i = V.int j) = decide (i = j) from decide_eq_decide.mpr ⟨V.int.inj, congrArg _⟩]
  exact q _ G H (Ext.refl le) (.bl _)
theorem op2_neI {i j : Int} : Op2 K rNe (.int i) (.int j) (.bl (!decide (i = j))) := fun v1 v2 G H le r1 r2 Q q => by
  rw [r1.intI, r2.intI]
  refine ⟨rfl, ?_⟩
  rw [show decide (V.int i = V.int j) = decide (i = j) from decide_eq_decide.mpr ⟨V.int.inj, congrArg _⟩]
  exact q _ G H (Ext.refl le) (.bl _)
theorem op2_eqS {x y : Str} : Op2 K rEq (.str x) (.str y) (.bl (decide (x = y))) := fun v1 v2 G H le r1 r2 Q q => by
  rw [r1.strI, r2.strI]
  refine ⟨rfl, ?_⟩
  rw [show decide (V.str x = V.str y) = decide (x = y) from decide_eq_decide.mpr ⟨V.str.inj, congrArg _⟩]
  exact q _ G H (Ext.refl le) (.bl _)
theorem op2_neS {x y : Str} : Op2 K rNe (.str x) (.str y) (.bl (!decide (x = y))) := fun v1 v2 G H le r1 r2 Q q => by
  rw [r1.strI, r2.strI]
  refine ⟨rfl, ?_⟩
  rw [show decide (V.str x = V.str y) = decide (x = y) from decide_eq_decide.mpr ⟨V.str.inj, congrArg _⟩]
  exact q _ G H (Ext.refl le) (.bl _)
theorem op2_eqB {x y : Bool} : Op2 K rEq (.bl x) (.bl y) (.bl (decide (x = y))) := fun v1 v2 G H le r1 r2 Q q => by
  rw [r1.blI, r2.blI]
  refine ⟨rfl, ?_⟩
  rw [show decide (V.bl x = V.bl y) = decide (x = y) from decide_eq_decide.mpr ⟨V.bl.inj, congrArg _⟩]
  exact q _ G H (Ext.refl le) (.bl _)
theorem op2_neB {x y : Bool} : Op2 K rNe (.bl x) (.bl y) (.bl (!decide (x = y))) := fun v1 v2 G H le r1 r2 Q q => by
  rw [r1.blI, r2.blI]
  refine ⟨rfl, ?_⟩
  rw [show decide (V.bl x = V.bl y) = decide (x = y) from decide_eq_decide.mpr ⟨V.bl.inj, congrArg _⟩]
  exact q _ G H (Ext.refl le) (.bl _)
/-- in, not in: flat things in a list or a tuple of flat things -/
theorem all_flatV : ∀ {ds : List Da}, ds.all flatD = true → (ds.map toV).all flatV = true
  | [], _ => rfl
  | d :: ds, f => by
    rw [List.all_cons, Bool.and_eq_true] at f
    rw [List.map_cons, List.all_cons, Bool.and_eq_true]
    exact ⟨by cases d <;> first | rfl | (cases f.1), all_flatV f.2⟩
theorem flatV_toV {d : Da} (f : flatD d = true) : flatV (toV d) = true := by cases d <;> first | rfl | (cases f)
def inD (d : Da) (ds : List Da) : Bool := inV (toV d) (ds.map toV)
theorem op2_inL {neg : Bool} (f1 : flatD d = true) (f2 : ds.all flatD = true) : Op2 K (rIn K neg) d (.lst ds) (.bl (if neg then !inD d ds else inD d ds)) := fun v1 v2 G H le r1 r2 Q q => by
  cases r2 with
  | lst h rs =>
    have e := rs.flat f2
    subst e
    rw [r1.flat f1]
    exact ⟨_, _, rfl, .inl (SqL.of (le _ _ h)), flatV_toV f1, all_flatV f2, q _ G H (Ext.refl le) (.bl _)⟩
theorem op2_inT {neg : Bool} (f1 : flatD d = true) (f2 : ds.all flatD = true) : Op2 K (rIn K neg) d (.tup ds) (.bl (if neg then !inD d ds else inD d ds)) := fun v1 v2 G H le r1 r2 Q q => by
  cases r2 with
  | tup h rs =>
    have e := rs.flat f2
    subst e
    rw [r1.flat f1]
    exact ⟨_, _, rfl, .inr (sqT_same le h), flatV_toV f1, all_flatV f2, q _ G H (Ext.refl le) (.bl _)⟩
theorem inD_int (i : Int) (ns : List Int) : inD (.int i) (ns.map Da.int) = decide (i ∈ ns) := by
  unfold inD inV
  induction ns with
  | nil => rfl
  | cons n ns ih =>
    rw [List.map_cons, List.map_cons, List.any_cons, ih]
    show (decide (n = i) || _) = _
    by_cases h : n = i
    · subst h; simp
    · simp [h, Ne.symm h, eq_comm]
theorem inD_str (i : Str) (ns : List Str) : inD (.str i) (ns.map Da.str) = decide (i ∈ ns) := by
  unfold inD inV
  induction ns with
  | nil => rfl
  | cons n ns ih =>
    rw [List.map_cons, List.map_cons, List.any_cons, ih]
    show (decide (n = i) || _) = _
    by_cases h : n = i
    · subst h; simp
    · simp [h, Ne.symm h, eq_comm]
theorem flat_ints (ns : List Int) : (ns.map Da.int).all flatD = true := by rw [List.all_map]; exact List.all_eq_true.mpr fun _ _ => rfl
theorem flat_strs (ns : List Str) : (ns.map Da.str).all flatD = true := by rw [List.all_map]; exact List.all_eq_true.mpr fun _ _ => rfl
theorem op2_inI {i : Int} {ns : List Int} : Op2 K (rIn K false) (.int i) (.lst (ns.map .int)) (.bl (decide (i ∈ ns))) := by
  have h := op2_inL (K := K) (neg := false) (d := .int i) rfl (flat_ints ns)
  rw [inD_int] at h
  exact h
theorem op2_inS {i : Str} {ns : List Str} : Op2 K (rIn K false) (.str i) (.lst (ns.map .str)) (.bl (decide (i ∈ ns))) := by
  have h := op2_inL (K := K) (neg := false) (d := .str i) rfl (flat_strs ns)
  rw [inD_str] at h
  exact h
/-- one sign in a text -/
theorem op2_inSign {c : Nat} {z : Str} : Op2 K rInS (.str ⟨#[c]⟩) (.str z) (.bl (decide (c ∈ z.cps.toList))) := fun v1 v2 G H le r1 r2 Q q => by
  rw [r1.strI, r2.strI]
  exact ⟨c, z, rfl, rfl, q _ G H (Ext.refl le) (.bl _)⟩
theorem atI_reps {G : Hp} {xs : List V} {i : Int} (h : Reps K G xs ds) (e : atI ds i = some d) : ∃ v, atI xs i = some v ∧ Rep K G v d := by
  unfold atI at e ⊢
  rw [h.len]
  cases q : ixN ds.length i with
  | none => rw [q] at e; cases e
  | some j =>
    rw [q] at e
    obtain ⟨v, h1, h2⟩ := h.get (i := j) e
    exact ⟨v, h1, h2⟩
theorem op2_ixL {i : Int} (e : atI ds i = some d) : Op2 K (rIxL K) (.lst ds) (.int i) d := fun v1 v2 G H le r1 r2 Q q => by
  cases r1 with
  | lst h rs =>
    obtain ⟨v, h1, h2⟩ := atI_reps rs e
    exact ⟨_, _, i, v, rfl, r2.intI, SqL.of (le _ _ h), h1, q v G H (Ext.refl le) h2⟩
theorem op2_ixC {i : Int} {ns : List Int} {n : Int} (e : atI ns i = some n) : Op2 K (rIxL K) (.scr ns) (.int i) (.int n) := fun v1 v2 G H le r1 r2 Q q => by
  cases r1 with
  | scr h =>
    refine ⟨_, _, i, .int n, rfl, r2.intI, le.seq h, ?_, q _ G H (Ext.refl le) (.int n)⟩
    unfold atI at e ⊢
    rw [List.length_map]
    cases q : ixN ns.length i with
    | none => rw [q] at e; cases e
    | some j => rw [q] at e; show (ns.map V.int)[j]? = _; rw [List.getElem?_map, show ns[j]? = some n from e]; rfl
theorem op2_ixT {i : Int} (e : atI ds i = some d) : Op2 K (rIxT K) (.tup ds) (.int i) d := fun v1 v2 G H le r1 r2 Q q => by
  cases r1 with
  | tup h rs =>
    obtain ⟨v, h1, h2⟩ := atI_reps rs e
    exact ⟨_, _, i, v, rfl, r2.intI, sqT_same le h, h1, q v G H (Ext.refl le) h2⟩
theorem op2_ixS {i : Int} {z : Str} {c : Nat} (hz : z.length ≤ 100000) (e : atI z.cps.toList i = some c) : Op2 K rIxS (.str z) (.int i) (.str ⟨#[c]⟩) := fun v1 v2 G H le r1 r2 Q q => by
  rw [r1.strI, r2.intI]
  exact ⟨z, i, c, rfl, rfl, len_line hz, e, q _ G H (Ext.refl le) (.str _)⟩
end
end R
set_option maxHeartbeats 4123456
/-! R3: what is walked, targets, comprehensions, statements. -/
namespace R
open PySem L2
/-- what turn i gives -/
def YD (K : PySem.W.Frag) (G1 : Hp) (ds : List Da) : Nat → Hp → V → Hp → Prop := fun i H2 x H3 => ∀ G2, Same G1 G2 → Same G2 H2 → ∃ G3 d, ds[i]? = some d ∧ Ext none G2 H2 G3 H3 ∧ Rep K G3 x d
def Srcd (K : PySem.W.Frag) (wi : TI) (δ : List En) (ds : List Da) : Prop := ∀ bp He bx σ G H, Same G H → ER K bp He bx G H σ δ → ∀ R : It → Hp → Prop,
  (∀ J G' H', Ext none G H G' H' → Walk J ds.length (fun H2 => Same G' H2) (YD K G' ds) → R J H') → wi σ H R
/-- a target takes d: the slots js are written -/
def Tgd (K : PySem.W.Frag) (g : TG) (js : List Nat) (d : Da) (δ δ' : List En) : Prop := ∀ bp He bx σ G H v, Same G H → ER K bp He bx G H σ δ → Rep K G v d → ∀ Q : L2.St → Hp → Prop,
  (∀ σ', ER K bp He bx G H σ' δ' → σ'.length = σ.length → (∀ k, k ∉ js → σ'[k]? = σ[k]?) → Q σ' H) → g v σ H Q
section
variable {K : PySem.W.Frag} {δ δ1 δ2 : List En} {ta tb tc te tx tl : TE} {t u : TT} {d d0 d1 d2 d3 : Da} {ds es : List Da} {g g1 g2 : TG}

theorem src_list (h : Evd K tl δ (.lst ds)) : Srcd K (iList K tl) δ ds := fun bp He bx σ G H le E R q =>
  h bp He bx σ G H le E _ fun v G1 H1 x1 r1 => by
    cases r1 with
    | @lst a xs _ hx rs =>
      refine ⟨a, rfl, ⟨xs, SqL.of (x1.le _ _ hx)⟩, q _ G1 H1 x1 ?_⟩
      rw [← rs.len]
      refine (walk_list (K := K) (a := a) (xs := xs)).mono (fun H2 s => SqL.of (s _ _ hx)) fun i H2 x H3 hi s y => ?_
      obtain ⟨rfl, e⟩ := y
      obtain ⟨d, e2, r2⟩ := rs.getV e
      exact fun G2 s1 s2 => ⟨G2, d, e2, Ext.refl s2, r2.mono s1⟩
theorem src_scr {ns : List Int} (h : Evd K tl δ (.scr ns)) : Srcd K (iList K tl) δ (ns.map .int) := fun bp He bx σ G H le E R q =>
  h bp He bx σ G H le E _ fun v G1 H1 x1 r1 => by
    cases r1 with
    | @scr a _ hx =>
      refine ⟨a, rfl, ⟨_, x1.le.seq hx⟩, q _ G1 H1 x1 ?_⟩
      have w := (walk_list (K := K) (a := a) (xs := ns.map V.int)).mono (G' := fun H2 => Same G1 H2) (Y' := YD K G1 (ns.map .int)) (fun H2 s => s.seq hx) fun i H2 x H3 hi s y => by
        obtain ⟨rfl, e⟩ := y
        rw [List.getElem?_map] at e
        cases e2 : ns[i]? with
        | none => rw [e2] at e; cases e
        | some n =>
          rw [e2] at e
          cases e
          exact fun G2 s1 s2 => ⟨G2, .int n, by rw [List.getElem?_map, e2]; rfl, Ext.refl s2, .int n⟩
      rw [List.length_map] at w ⊢
      exact w
theorem src_tup (h : Evd K tl δ (.tup ds)) : Srcd K (iTup K tl) δ ds := fun bp He bx σ G H le E R q =>
  h bp He bx σ G H le E _ fun v G1 H1 x1 r1 => by
    cases r1 with
    | @tup a xs _ hx rs =>
      refine ⟨a, rfl, ⟨xs, sqT_same x1.le hx⟩, q _ G1 H1 x1 ?_⟩
      rw [← rs.len]
      refine (walk_tup (K := K) (a := a) (xs := xs)).mono (fun H2 s => sqT_same s hx) fun i H2 x H3 hi s y => ?_
      obtain ⟨rfl, e⟩ := y
      obtain ⟨d, e2, r2⟩ := rs.getV e
      exact fun G2 s1 s2 => ⟨G2, d, e2, Ext.refl s2, r2.mono s1⟩
/-- lo, lo + 1, .. -/
def irng (lo : Int) (n : Nat) : List Da := (List.range n).map fun (i : Nat) => .int (lo + (i : Int))
theorem irng_len {lo : Int} {n : Nat} : (irng lo n).length = n := by unfold irng; rw [List.length_map, List.length_range]
theorem irng_get {lo : Int} {n i : Nat} (h : i < n) : (irng lo n)[i]? = some (.int (lo + (i : Int))) := by
  unfold irng
  rw [List.getElem?_map, List.getElem?_range h]; rfl
theorem irng_at {lo : Int} {n i : Nat} {d : Da} (h : (irng lo n)[i]? = some d) : i < n ∧ d = .int (lo + (i : Int)) := by
  have hi : i < n := by
    have := (List.getElem?_eq_some_iff.mp h).1
    rwa [irng_len] at this
  rw [irng_get hi] at h
  exact ⟨hi, (Option.some.inj h).symm⟩
theorem walk_irng {lo : Int} {n : Nat} {G1 : Hp} : Walk (Itr lo n) (irng lo n).length (fun H2 => Same G1 H2) (YD K G1 (irng lo n)) := by
  have w := (walk_range (lo := lo) (n := n)).mono (G' := fun H2 => Same G1 H2) (Y' := YD K G1 (irng lo n)) (fun _ _ => trivial) fun i H2 x H3 hi s y => by
    obtain ⟨rfl, rfl⟩ := y
    exact fun G2 s1 s2 => ⟨G2, _, irng_get hi, Ext.refl s2, .int _⟩
  rw [irng_len]
  exact w
theorem src_rng1 {ta : TA} {n : Int} (h : EvdA K ta δ [.int n]) (hn : n ≤ 2 ^ 61) (h0 : -(2 ^ 61) ≤ n) : Srcd K (iRng1 ta) δ (irng 0 n.toNat) := fun bp He bx σ G H le E R q =>
  h bp He bx σ G H le E _ fun vs G1 H1 x1 r1 => by
    cases r1 with
    | cons r r' =>
      cases r'
      rw [r.intI]
      exact ⟨n, rfl, by omega, by omega, q _ G1 H1 x1 walk_irng⟩
theorem src_rng2 {ta : TA} {m n : Int} (h : EvdA K ta δ [.int m, .int n]) (hn : n ≤ 2 ^ 61 ∧ -(2 ^ 61) ≤ n) (h0 : -(2 ^ 61) ≤ m ∧ m ≤ 2 ^ 61) : Srcd K (iRng2 ta) δ (irng m (n - m).toNat) := fun bp He bx σ G H le E R q =>
  h bp He bx σ G H le E _ fun vs G1 H1 x1 r1 => by
    cases r1 with
    | cons r r' =>
      cases r' with
      | cons r2 r' =>
        cases r'
        rw [r.intI, r2.intI]
        exact ⟨m, n, rfl, ⟨by omega, by omega, by omega, by omega⟩, q _ G1 H1 x1 walk_irng⟩
/-- the signs of a text -/
def signs (z : Str) : List Da := z.cps.toList.map fun c => .str ⟨#[c]⟩
theorem src_str {z : Str} (h : Evd K tl δ (.str z)) : Srcd K (iStr tl) δ (signs z) := fun bp He bx σ G H le E R q =>
  h bp He bx σ G H le E _ fun v G1 H1 x1 r1 => by
    rw [r1.strI]
    refine ⟨z, rfl, q _ G1 H1 x1 ?_⟩
    have w := (walk_str (z := z)).mono (G' := fun H2 => Same G1 H2) (Y' := YD K G1 (signs z)) (fun _ _ => trivial) fun i H2 x H3 hi s y => by
      obtain ⟨rfl, c, e, rfl⟩ := y
      refine fun G2 s1 s2 => ⟨G2, .str ⟨#[c]⟩, ?_, Ext.refl s2, .str _⟩
      unfold signs
      rw [List.getElem?_map, Array.getElem?_toList, e]; rfl
    have el : (signs z).length = z.cps.size := by unfold signs; rw [List.length_map, Array.length_toList]
    rw [el]
    exact w
/-- the keys, the values of a dict that stands still -/
def keyD : Key → Da
  | .inl i => .int i
  | .inr x => .str x
theorem RepK.get {G : Hp} : ∀ {kvs : List (Key × V)} {kds : List (Key × Da)} {i : Nat} {k : Key} {v : V}, RepK K G kvs kds → kvs[i]? = some (k, v) → ∃ d, kds[i]? = some (k, d) ∧ Rep K G v d
  | _, _, _, _, _, .nil, e => by simp at e
  | _, _, 0, _, _, .cons h _, e => by simp at e; obtain ⟨rfl, rfl⟩ := e; exact ⟨_, rfl, h⟩
  | _, _, i + 1, k, v, .cons _ r, e => by
    obtain ⟨d, h1, h2⟩ := RepK.get (i := i) r (by simpa using e)
    exact ⟨d, by simpa using h1, h2⟩
theorem RepK.len {G : Hp} : ∀ {kvs : List (Key × V)} {kds : List (Key × Da)}, RepK K G kvs kds → kvs.length = kds.length
  | _, _, .nil => rfl
  | _, _, .cons _ r => congrArg (· + 1) r.len
theorem rep_key {G : Hp} (k : Key) : Rep K G (kV k) (keyD k) := by cases k with | inl i => exact .int i | inr x => exact .str x
theorem src_keys {kds : List (Key × Da)} (h : Evd K tl δ (.dic kds)) : Srcd K (iKeys tl) δ (kds.map fun k => keyD k.1) := fun bp He bx σ G H le E R q =>
  h bp He bx σ G H le E _ fun v G1 H1 x1 r1 => by
    cases r1 with
    | @dic a o kvs _ hx rs =>
      refine ⟨a, o, rfl, .inl ⟨kvs, x1.le _ _ hx, q _ G1 H1 x1 ?_⟩⟩
      rw [List.length_map, ← rs.len]
      refine (walk_keys (d := a) (o := o) (kvs := kvs)).mono (fun H2 s => s _ _ hx) fun i H2 x H3 hi s y => ?_
      obtain ⟨rfl, k, v, e, rfl⟩ := y
      obtain ⟨d, e2, r2⟩ := rs.get e
      exact fun G2 s1 s2 => ⟨G2, keyD k, by rw [List.getElem?_map, e2]; rfl, Ext.refl s2, rep_key k⟩
theorem src_vals {kds : List (Key × Da)} (h : Evd K tl δ (.dic kds)) : Srcd K (iVals tl) δ (kds.map fun k => k.2) := fun bp He bx σ G H le E R q =>
  h bp He bx σ G H le E _ fun v G1 H1 x1 r1 => by
    cases r1 with
    | @dic a o kvs _ hx rs =>
      refine ⟨a, o, kvs, rfl, x1.le _ _ hx, q _ G1 H1 x1 ?_⟩
      rw [List.length_map, ← rs.len]
      refine (walk_values (d := a) (o := o) (kvs := kvs)).mono (fun H2 s => s _ _ hx) fun i H2 x H3 hi s y => ?_
      obtain ⟨rfl, k, e⟩ := y
      obtain ⟨d, e2, r2⟩ := rs.get e
      exact fun G2 s1 s2 => ⟨G2, d, by rw [List.getElem?_map, e2]; rfl, Ext.refl s2, r2.mono s1⟩

/-! targets -/
theorem tg_name {i : Nat} : Tgd K (gName i) [i] d δ (δ.set i (.rep d)) := fun bp He bx σ G H v le E r Q q =>
  q _ (E.set r) (by rw [List.length_set]) fun k hk => by rw [List.getElem?_set_ne (fun z => hk (by rw [z]; exact List.mem_singleton.mpr rfl))]
def Tgds (K : PySem.W.Frag) (g : TGs) (js : List Nat) (ds : List Da) (δ δ' : List En) : Prop := ∀ bp He bx σ G H vs, Same G H → ER K bp He bx G H σ δ → Reps K G vs ds → ∀ Q : L2.St → Hp → Prop,
  (∀ σ', ER K bp He bx G H σ' δ' → σ'.length = σ.length → (∀ k, k ∉ js → σ'[k]? = σ[k]?) → Q σ' H) → g vs σ H Q
theorem tgs_nil : Tgds K gNil [] [] δ δ := fun bp He bx σ G H vs le E r Q q => by
  cases r
  exact ⟨rfl, q σ E rfl fun _ _ => rfl⟩
theorem tgs_cons {gs : TGs} {js ks : List Nat} (h : Tgd K g js d δ δ1) (hr : Tgds K gs ks ds δ1 δ2) : Tgds K (gCons g gs) (js ++ ks) (d :: ds) δ δ2 := fun bp He bx σ G H vs le E r Q q => by
  cases r with
  | cons r1 r2 =>
    refine ⟨_, _, rfl, h bp He bx σ G H _ le E r1 _ fun σ1 E1 l1 k1 => hr bp He bx σ1 G H _ le E1 r2 _ fun σ2 E2 l2 k2 => q σ2 E2 (l2.trans l1) fun k hk => ?_⟩
    exact (k2 k fun z => hk (List.mem_append_right _ z)).trans (k1 k fun z => hk (List.mem_append_left _ z))
theorem tg_tup {gs : TGs} {js : List Nat} {n : Nat} (h : Tgds K gs js ds δ δ1) (hn : ds.length = n) : Tgd K (gTup K n gs) js (.tup ds) δ δ1 := fun bp He bx σ G H v le E r Q q => by
  cases r with
  | tup hx rs => exact ⟨_, _, rfl, sqT_same le hx, by rw [rs.len]; exact hn, h bp He bx σ G H _ le E rs _ q⟩
/-- two names at once -/
theorem tg_two {i j : Nat} : Tgd K (gTup K 2 (gCons (gName i) (gCons (gName j) gNil))) ([i] ++ ([j] ++ [])) (.tup [d1, d2]) δ ((δ.set i (.rep d1)).set j (.rep d2)) := tg_tup (tgs_cons tg_name (tgs_cons tg_name tgs_nil)) rfl

/-! ### comprehensions -/
def wipeE (δ : List En) : List Nat → List En
  | [] => δ
  | v :: vs => (wipeE δ vs).set v .any
theorem ER.setNone {bp bx : Option Addr} {He G H : Hp} {σ : L2.St} {i : Nat} (E : ER K bp He bx G H σ δ) : ER K bp He bx G H (σ.set i none) (δ.set i .any) := by
  refine ⟨by rw [List.length_set, List.length_set, E.len], fun j en h => ?_, fun j k ds es l ne h1 h2 h3 => ?_, E.bxo, E.bxt, E.bxp⟩
  · by_cases hj : i = j
    · subst hj
      by_cases hi : i < δ.length
      · rw [List.getElem?_set_self hi] at h
        cases h
        trivial
      · rw [List.getElem?_eq_none (by rw [List.length_set]; omega)] at h
        cases h
    · rw [List.getElem?_set_ne hj] at h ⊢
      exact E.at_ j en h
  · have n1 : i ≠ j := fun z => by
      subst z
      rw [List.getElem?_set] at h1
      split at h1 <;> simp_all
    have n2 : i ≠ k := fun z => by
      subst z
      rw [List.getElem?_set] at h2
      split at h2 <;> simp_all
    rw [List.getElem?_set_ne n1] at h1 h3
    rw [List.getElem?_set_ne n2] at h2 ⊢
    exact E.sep j k ds es l ne h1 h2 h3
theorem ER.wipe {bp bx : Option Addr} {He G H : Hp} {σ : L2.St} (E : ER K bp He bx G H σ δ) : ∀ vs : List Nat, ER K bp He bx G H (wipe σ vs) (wipeE δ vs)
  | [] => E
  | v :: vs => (ER.wipe E vs).setNone
theorem wipe_get {σ : L2.St} : ∀ {vs : List Nat} {k : Nat}, k ∉ vs → (wipe σ vs)[k]? = σ[k]?
  | [], _, _ => rfl
  | v :: vs, k, h => by
    show ((wipe σ vs).set v none)[k]? = _
    rw [List.getElem?_set_ne (fun z => h (by rw [z]; exact List.mem_cons_self))]
    exact wipe_get fun z => h (List.mem_cons_of_mem _ z)
theorem wipe_in {σ : L2.St} : ∀ {vs : List Nat} {k : Nat}, k ∈ vs → k < σ.length → (wipe σ vs)[k]? = some none
  | v :: vs, k, h, hl => by
    show ((wipe σ vs).set v none)[k]? = _
    by_cases e : v = k
    · subst e; rw [List.getElem?_set_self (by rw [wipe_length]; exact hl)]
    · rw [List.getElem?_set_ne e]
      rcases List.mem_cons.mp h with z | z
      · exact absurd z.symm e
      · exact wipe_in z hl
theorem wipe_eq {σ σ' : L2.St} {vs js : List Nat} (hj : ∀ j ∈ js, j ∈ vs) (hl : σ'.length = (wipe σ vs).length) (hk : ∀ k, k ∉ js → σ'[k]? = (wipe σ vs)[k]?) : wipe σ' vs = wipe σ vs := by
  rw [wipe_length] at hl
  refine List.ext_getElem? fun k => ?_
  by_cases h : k ∈ vs
  · by_cases hi : k < σ.length
    · rw [wipe_in h hi, wipe_in h (by rw [hl]; exact hi)]
    · rw [List.getElem?_eq_none (by rw [wipe_length, hl]; omega), List.getElem?_eq_none (by rw [wipe_length]; omega)]
  · rw [wipe_get h, wipe_get h, hk k fun z => h (hj k z), wipe_get h]
/-- [te for g in wi if t], nothing drawn -/
theorem evo_lc {wi : TI} {vs js : List Nat} {keep : Da → Bool} {f : Da → Da} (hs : Srcd K wi δ ds) (hj : ∀ j ∈ js, j ∈ vs) (hn : ds.length ≤ 50000)
    (h : ∀ (i : Nat) d, ds[i]? = some d → ∃ δ2, Tgd K g js d (wipeE δ vs) δ2 ∧ Tvd K t δ2 (keep d) ∧ (keep d = true → Evd K te δ2 (f d))) : EvO K (tLc wi g t te vs) δ ((ds.filter keep).map f) := by
  intro bp He bx σ G H le E Q q
  refine hs bp He bx σ G H le E _ fun J G1 H1 x1 w D hD => ?_
  have E1 := E.lift x1
  refine lc_it w (Pv := fun i H' => ∃ G' acc, Ext none G1 H1 G' H' ∧ G' D = none ∧ H' D = some (.lst acc) ∧ Reps K G' acc (((ds.take i).filter keep).map f))
    ⟨G1, [], Ext.own x1.le hD, x1.le.free hD, upd_same, .nil⟩ (fun i H' _ ⟨G', acc, x, _⟩ => x.gg.trans x.le) ?_ ?_
  · rintro i x H2 H3 hi ⟨G', acc, x2, n2, n3, r2⟩ y
    obtain ⟨G3, d, e, x3, r3⟩ := y G' x2.gg x2.le
    have x13 := x2.trans x3
    have hDn : H2 D ≠ none := by rw [n3]; exact fun z => nomatch z
    have n4 : G3 D = none := (x3.gs D hDn).trans n2
    have n5 : H3 D = some (.lst acc) := x3.hh D _ (fun z => nomatch z) n3
    obtain ⟨δ2, hg, ht, he⟩ := h i d e
    refine hg bp He bx (wipe σ vs) G3 H3 x x3.le ((E1.lift x13).wipe vs) r3 _ fun σ' E' l' k' => ⟨wipe_eq hj l' k', ?_⟩
    have et : (ds.take (i + 1)) = ds.take i ++ [d] := by rw [List.take_add_one, e]; rfl
    refine ht bp He bx σ' G3 H3 x3.le E' _ fun G4 H4 x4 => ?_
    have m5 : H3 D ≠ none := by rw [n5]; exact fun z => nomatch z
    cases hk : keep d with
    | true =>
      refine iteT (he hk bp He bx σ' G4 H4 x4.le (E'.lift x4) _ fun v G5 H5 x5 r5 => ?_)
      have x35 := x4.trans x5
      refine ⟨acc, x35.hh D _ (fun z => nomatch z) n5, len_lt ?_, G5, acc ++ [v], (x13.trans x35).mut hD ((x35.gs D m5).trans n4), (x35.gs D m5).trans n4, upd_same, ?_⟩
      · have hlen := r2.len
        rw [List.length_map] at hlen
        have := List.length_filter_le keep (ds.take i)
        have := List.length_take_le i ds
        have : (ds.take i).length ≤ ds.length := by rw [List.length_take]; omega
        omega
      · rw [et, List.filter_append, List.map_append, List.filter_cons, if_pos hk]
        exact (r2.mono (x3.trans x35).gg).app (.cons r5 .nil)
    | false =>
      refine iteF ⟨G4, acc, x13.trans x4, (x4.gs D m5).trans n4, x4.hh D _ (fun z => nomatch z) n5, ?_⟩
      rw [et, List.filter_append, List.map_append, List.filter_cons, if_neg (by rw [hk]; decide)]
      rw [List.filter_nil, List.map_nil, List.append_nil]
      exact r2.mono (x3.trans x4).gg
  · rintro H' ⟨G', acc, x2, n2, n3, r2⟩
    rw [List.take_length] at r2
    exact q D acc G' H' (x1.trans x2) (x1.free hD) n2 n3 r2
/-- .. without an if -/
theorem evo_map {wi : TI} {vs js : List Nat} {f : Da → Da} (hs : Srcd K wi δ ds) (hj : ∀ j ∈ js, j ∈ vs) (hn : ds.length ≤ 50000)
    (h : ∀ (i : Nat) d, ds[i]? = some d → ∃ δ2, Tgd K g js d (wipeE δ vs) δ2 ∧ Evd K te δ2 (f d)) : EvO K (tLc wi g tYes te vs) δ (ds.map f) := by
  have q := evo_lc (keep := fun _ => true) (f := f) (t := tYes) hs hj hn fun i d e => by
    obtain ⟨δ2, a, b⟩ := h i d e
    exact ⟨δ2, a, tvd_yes, fun _ => b⟩
  rw [List.filter_eq_self.mpr (fun _ _ => rfl)] at q
  exact q
/-- [te for g in wi], each turn draws at most c from the box -/
theorem eveo_lc {wi : TI} {vs js : List Nat} {c : Nat} {P : Nat → Da → Prop} (hs : Srcd K wi δ ds) (hj : ∀ j ∈ js, j ∈ vs) (hn : ds.length ≤ 50000)
    (h : ∀ (i : Nat) d, ds[i]? = some d → ∃ δ2, Tgd K g js d (wipeE (bmp (i * c) δ) vs) δ2 ∧ Eve K te δ2 c (P i)) :
    EveO K (tLc wi g tYes te vs) δ (ds.length * c) (fun rs => rs.length = ds.length ∧ ∀ i r, rs[i]? = some r → P i r) := by
  intro bp He bx σ G H le E Q q
  refine hs bp He bx σ G H le E _ fun J G1 H1 x1 w D hD => ?_
  have E1 := E.lift x1
  have nb : bx ≠ some D := E1.notBox hD
  refine lc_it w (Pv := fun i H' => ∃ G' acc rs, Ext bx G1 H1 G' H' ∧ BoxStep bx H1 H' (i * c) ∧ G' D = none ∧ H' D = some (.lst acc) ∧ Reps K G' acc rs ∧ rs.length = i ∧ ∀ j r, rs[j]? = some r → P j r)
    ⟨G1, [], [], Ext.own x1.le hD, (Ext.own (G := G1) x1.le hD).boxStep _, x1.le.free hD, upd_same, .nil, rfl, fun j r e => by simp at e⟩ (fun i H' _ ⟨G', acc, rs, x, _⟩ => x.gg.trans x.le) ?_ ?_
  · rintro i x H2 H3 hi ⟨G', acc, rs, x2, b2, n2, n3, r2, hl, hP⟩ y
    obtain ⟨G3, d, e, x3, r3⟩ := y G' x2.gg x2.le
    have hDn : H2 D ≠ none := by rw [n3]; exact fun z => nomatch z
    have n4 : G3 D = none := (x3.gs D hDn).trans n2
    have n5 : H3 D = some (.lst acc) := x3.hh D _ (fun z => nomatch z) n3
    obtain ⟨δ2, hg, he⟩ := h i d e
    have E3 := (E1.step x2 b2).lift x3
    refine hg bp He bx (wipe σ vs) G3 H3 x x3.le (E3.wipe vs) r3 _ fun σ' E' l' k' => ⟨wipe_eq hj l' k', ?_⟩
    unfold tYes
    dsimp only
    rw [if_pos rfl]
    have m5 : H3 D ≠ none := by rw [n5]; exact fun z => nomatch z
    refine he bp He bx σ' G3 H3 x3.le E' _ fun v r G5 H5 x5 b5 r5 p5 => ?_
    have x15 : Ext bx G1 H1 G5 H5 := (x2.trans x3.none_to).trans x5
    have n6 : G5 D = none := (x5.gs D m5).trans n4
    have b15 : BoxStep bx H1 H5 ((i + 1) * c) := ((b2.trans (x3.boxStep 0)).trans b5).mono (by rw [Nat.succ_mul]; exact Nat.le_refl _)
    refine ⟨acc, x5.hh D _ nb n5, len_lt (by rw [r2.len]; omega), G5, acc ++ [v], rs ++ [r], x15.mut hD n6, b15.upd nb, n6, upd_same, ?_, by rw [List.length_append, hl]; rfl, ?_⟩
    · exact (r2.mono ((x3.none_to (bx := bx)).trans x5).gg).app (.cons r5 .nil)
    · intro j r' e'
      by_cases hjj : j < rs.length
      · rw [List.getElem?_append_left hjj] at e'
        exact hP j r' e'
      · rw [List.getElem?_append_right (by omega)] at e'
        have : j - rs.length = 0 := by
          have := (List.getElem?_eq_some_iff.mp e').1
          simp at this; omega
        rw [this] at e'
        cases e'
        have : j = i := by omega
        rw [this]; exact p5
  · rintro H' ⟨G', acc, rs, x2, b2, n2, n3, r2, hl, hP⟩
    exact q D acc rs G' H' nb (x1.none_to.trans x2) (((x1.boxStep 0).trans b2).mono (by omega)) (x1.free hD) n2 n3 r2 ⟨hl, hP⟩
end
end R
set_option maxHeartbeats 4123456
/-! R4: statements, calls. -/
namespace R
open PySem L2
/-- what is wanted behind a statement -/
structure Po where
  nx : List En → Prop
  rt : Da → List En → Prop
  bk : List En → Prop := fun _ => False
  ct : List En → Prop := fun _ => False
  top : Bool := false
section
variable (K : PySem.W.Frag)
def KN (bp : Option Addr) (Ge He G : Hp) (P : List En → Prop) (f : L2.St → Hp → Prop) : Prop := ∀ bx G' H' σ' δ', Ext bp Ge He G' H' → Same G G' → ER K bp He bx G' H' σ' δ' → P δ' → f σ' H'
def KR (bp : Option Addr) (Ge He G : Hp) (P : Da → List En → Prop) (f : VK) : Prop := ∀ v d bx G' H' σ' δ', Ext bp Ge He G' H' → Same G G' → ER K bp He bx G' H' σ' δ' → Rep K G' v d → P d δ' → f v H'
/-- the statement, from the environment δ, leads to D -/
def Std (ts : TS) (δ : List En) (D : Po) : Prop := ∀ bp, (D.top = true → bp = none) → ∀ Ge He bx G H σ (E : Ends), Ext bp Ge He G H → ER K bp He bx G H σ δ →
  KN K bp Ge He G D.nx E.nx → KR K bp Ge He G D.rt E.rt → KN K bp Ge He G D.bk E.bk → KN K bp Ge He G D.ct E.ct → ts E σ H
end
section
variable {K : PySem.W.Frag} {δ δ1 δ2 : List En} {ta tb tc te tx tl : TE} {t u : TT} {d d0 d1 d2 d3 : Da} {ds es : List Da} {g g1 g2 : TG} {t1 t2 ts : TS} {D : Po}
theorem KN.lift {bp : Option Addr} {Ge He G G1 : Hp} {P : List En → Prop} {f : L2.St → Hp → Prop} (k : KN K bp Ge He G P f) (e : Same G G1) : KN K bp Ge He G1 P f :=
  fun bx G' H' σ' δ' x s E p => k bx G' H' σ' δ' x (e.trans s) E p
theorem KR.lift {bp : Option Addr} {Ge He G G1 : Hp} {P : Da → List En → Prop} {f : VK} (k : KR K bp Ge He G P f) (e : Same G G1) : KR K bp Ge He G1 P f :=
  fun v d bx G' H' σ' δ' x s E r p => k v d bx G' H' σ' δ' x (e.trans s) E r p
theorem std_seq (h : Std K t1 δ { D with nx := fun δ1 => Std K t2 δ1 D }) : Std K (tSeq t1 t2) δ D := fun bp tp Ge He bx G H σ E x er kn kr kb kc =>
  h bp tp Ge He bx G H σ { E with nx := t2 E } x er (fun bx' G' H' σ' δ' x' s er' st => st bp tp Ge He bx' G' H' σ' E x' er' (kn.lift s) (kr.lift s) (kb.lift s) (kc.lift s)) kr kb kc
theorem std_next (h : D.nx δ) : Std K tNext δ D := fun bp tp Ge He bx G H σ E x er kn kr kb kc => kn bx G H σ δ x (Same.refl G) er h
theorem std_break (h : D.bk δ) : Std K tBreak δ D := fun bp tp Ge He bx G H σ E x er kn kr kb kc => kb bx G H σ δ x (Same.refl G) er h
theorem std_cont (h : D.ct δ) : Std K tCont δ D := fun bp tp Ge He bx G H σ E x er kn kr kb kc => kc bx G H σ δ x (Same.refl G) er h
theorem std_asg {i : Nat} (h : Evd K te δ d) (k : D.nx (δ.set i (.rep d))) : Std K (tAsg te (gName i)) δ D := fun bp tp Ge He bx G H σ E x er kn kr kb kc =>
  h bp He bx σ G H x.le er _ fun v G1 H1 x1 r => kn bx G1 H1 _ _ (x.trans x1.none_to) x1.gg ((er.lift x1).set r) k
theorem ownFresh {bp bx : Option Addr} {He G H : Hp} {σ : L2.St} {l : Addr} (er : ER K bp He bx G H σ δ) (hl : H l = none) : ∀ (j : Nat) (es : List Da), δ[j]? = some (.own es) → σ[j]? ≠ some (some (.ref l)) := fun j es h z => by
  obtain ⟨l', vs, e, _, _, c, _⟩ := er.ownAt h
  rw [e] at z
  cases z
  rw [hl] at c; cases c
theorem Ext.freeE {bp : Option Addr} {Ge He G H : Hp} {l : Addr} (x : Ext bp Ge He G H) (h : H l = none) : He l = none := by
  cases e : He l with
  | none => rfl
  | some o => exact absurd h (x.hn l (by rw [e]; exact fun z => nomatch z))
theorem std_asgO {i : Nat} (h : EvO K te δ ds) (k : D.nx (δ.set i (.own ds))) : Std K (tAsg te (gName i)) δ D := fun bp tp Ge He bx G H σ E x er kn kr kb kc =>
  h bp He bx σ G H x.le er _ fun l vs G1 H1 x1 n1 n2 n3 r => kn bx G1 H1 _ _ (x.trans x1.none_to) x1.gg
    ((er.lift x1).setOwn (x.freeE n1) n2 n3 r (er.notBox n1) (ownFresh er n1)) k
theorem std_asgE {i c : Nat} {P : Da → Prop} (h : Eve K te δ c P) (k : ∀ d, P d → D.nx ((bmp c δ).set i (.rep d))) : Std K (tAsg te (gName i)) δ D := fun bp tp Ge He bx G H σ E x er kn kr kb kc =>
  h bp He bx σ G H x.le er _ fun v d G1 H1 x1 b1 r p => kn bx G1 H1 _ _ (x.join er.bxo x1) x1.gg ((er.step x1 b1).set r) (k d p)
theorem std_asgEO {i c : Nat} {P : List Da → Prop} (h : EveO K te δ c P) (k : ∀ ds, P ds → D.nx ((bmp c δ).set i (.own ds))) : Std K (tAsg te (gName i)) δ D := fun bp tp Ge He bx G H σ E x er kn kr kb kc =>
  h bp He bx σ G H x.le er _ fun l vs ds G1 H1 nb x1 b1 n1 n2 n3 r p => kn bx G1 H1 _ _ (x.join er.bxo x1) x1.gg
    ((er.step x1 b1).setOwn (x.freeE n1) n2 n3 r nb (fun j es h => ownFresh er n1 j es (bmp_own h))) (k ds p)
/-- a target of several names -/
theorem std_asgT {js : List Nat} (h : Evd K te δ d) (hg : Tgd K g js d δ δ1) (k : D.nx δ1) : Std K (tAsg te g) δ D := fun bp tp Ge He bx G H σ E x er kn kr kb kc =>
  h bp He bx σ G H x.le er _ fun v G1 H1 x1 r => hg bp He bx σ G1 H1 v x1.le (er.lift x1) r _ fun σ' er' _ _ => kn bx G1 H1 _ _ (x.trans x1.none_to) x1.gg er' k
theorem std_ret (h : Evd K te δ d) (k : D.rt d δ) : Std K (tRet te) δ D := fun bp tp Ge He bx G H σ E x er kn kr kb kc =>
  h bp He bx σ G H x.le er _ fun v G1 H1 x1 r => kr v d bx G1 H1 σ δ (x.trans x1.none_to) x1.gg (er.lift x1) r k
theorem std_retE {c : Nat} {P : Da → Prop} (h : Eve K te δ c P) (k : ∀ d, P d → D.rt d (bmp c δ)) : Std K (tRet te) δ D := fun bp tp Ge He bx G H σ E x er kn kr kb kc =>
  h bp He bx σ G H x.le er _ fun v d G1 H1 x1 b1 r p => kr v d bx G1 H1 σ _ (x.join er.bxo x1) x1.gg (er.step x1 b1) r (k d p)
theorem std_retN (k : D.rt .non δ) : Std K tRetN δ D := fun bp tp Ge He bx G H σ E x er kn kr kb kc => kr .non .non bx G H σ δ x (Same.refl G) er .non k
theorem std_drop (h : Evd K te δ d) (k : D.nx δ) : Std K (tDrop te) δ D := fun bp tp Ge He bx G H σ E x er kn kr kb kc =>
  h bp He bx σ G H x.le er _ fun v G1 H1 x1 r => kn bx G1 H1 _ _ (x.trans x1.none_to) x1.gg (er.lift x1) k
theorem std_dropE {c : Nat} {P : Da → Prop} (h : Eve K te δ c P) (k : D.nx (bmp c δ)) : Std K (tDrop te) δ D := fun bp tp Ge He bx G H σ E x er kn kr kb kc =>
  h bp He bx σ G H x.le er _ fun v d G1 H1 x1 b1 r p => kn bx G1 H1 _ _ (x.join er.bxo x1) x1.gg (er.step x1 b1) k
theorem std_if {b : Bool} (h : Tvd K t δ b) (h1 : b = true → Std K t1 δ D) (h2 : b = false → Std K t2 δ D) : Std K (tIfS t t1 t2) δ D := fun bp tp Ge He bx G H σ E x er kn kr kb kc =>
  h bp He bx σ G H x.le er _ fun G1 H1 x1 => by
    have x2 := x.trans (x1.none_to (bx := bp))
    cases b with
    | true => exact iteT (h1 rfl bp tp Ge He bx G1 H1 σ E x2 (er.lift x1) (kn.lift x1.gg) (kr.lift x1.gg) (kb.lift x1.gg) (kc.lift x1.gg))
    | false => exact iteF (h2 rfl bp tp Ge He bx G1 H1 σ E x2 (er.lift x1) (kn.lift x1.gg) (kr.lift x1.gg) (kb.lift x1.gg) (kc.lift x1.gg))
/-- a test that draws -/
theorem std_ifE {c : Nat} {P : Bool → Prop} (h : Tve K t δ c P) (h1 : P true → Std K t1 (bmp c δ) D) (h2 : P false → Std K t2 (bmp c δ) D) : Std K (tIfS t t1 t2) δ D := fun bp tp Ge He bx G H σ E x er kn kr kb kc =>
  h bp He bx σ G H x.le er _ fun b G1 H1 x1 b1 p => by
    have x2 := x.join er.bxo x1
    cases b with
    | true => exact iteT (h1 p bp tp Ge He bx G1 H1 σ E x2 (er.step x1 b1) (kn.lift x1.gg) (kr.lift x1.gg) (kb.lift x1.gg) (kc.lift x1.gg))
    | false => exact iteF (h2 p bp tp Ge He bx G1 H1 σ E x2 (er.step x1 b1) (kn.lift x1.gg) (kr.lift x1.gg) (kb.lift x1.gg) (kc.lift x1.gg))
/-- a way that can't be -/
theorem std_no (h : False) : Std K ts δ D := h.elim
/-- for g in wi: tb -/
theorem std_for {wi : TI} {js : List Nat} (hs : Srcd K wi δ ds) (I : Nat → List En → Prop) (h0 : I 0 δ)
    (hb : ∀ (i : Nat) d δ1, ds[i]? = some d → I i δ1 → ∃ δ2, Tgd K g js d δ1 δ2 ∧ Std K ts δ2 { D with nx := I (i + 1), ct := I (i + 1), bk := D.nx })
    (hd : ∀ δ1, I ds.length δ1 → D.nx δ1) : Std K (tFor wi g ts) δ D := fun bp tp Ge He bx G H σ E x er kn kr kb kc =>
  hs bp He bx σ G H x.le er _ fun J G1 H1 x1 w => by
    refine for_it w (Pv := fun i σ' H' => ∃ bx' G' δ', Ext bp Ge He G' H' ∧ Same G1 G' ∧ ER K bp He bx' G' H' σ' δ' ∧ I i δ') ⟨bx, G1, δ, x.trans x1.none_to, Same.refl G1, er.lift x1, h0⟩
      (fun i σ' H' _ ⟨_, G', _, x', s, _⟩ => s.trans x'.le) ?_ ?_
    · rintro i v σ' H2 H3 hi ⟨bx', G2, δ', x2, s2, er2, hI⟩ y
      obtain ⟨G3, d, e, x3, r3⟩ := y G2 s2 x2.le
      obtain ⟨δ2, hg, hst⟩ := hb i d δ' e hI
      have x23 := x2.trans (x3.none_to (bx := bp))
      refine hg bp He bx' σ' G3 H3 v x3.le (er2.lift x3) r3 _ fun σ2 er4 _ _ => ?_
      have s03 : Same G G3 := x1.gg.trans (s2.trans x3.gg)
      have kI : KN K bp Ge He G3 (I (i + 1)) (fun σ' H' => ∃ bx' G' δ', Ext bp Ge He G' H' ∧ Same G1 G' ∧ ER K bp He bx' G' H' σ' δ' ∧ I (i + 1) δ') := fun bx5 G5 H5 σ5 δ5 x5 s5 er5 p5 =>
        ⟨bx5, G5, δ5, x5, (s2.trans x3.gg).trans s5, er5, p5⟩
      exact hst bp tp Ge He bx' G3 H3 σ2 { E with nx := _, ct := _, bk := E.nx } x23 er4 kI (kr.lift s03) (kn.lift s03) kI
    · rintro σ' H' ⟨bx', G2, δ', x2, s2, er2, hI⟩
      exact kn bx' G2 H' σ' δ' x2 (x1.gg.trans s2) er2 (hd δ' hI)
/-- while: a word that falls -/
theorem std_while (I : Nat → List En → Prop) (m0 : Nat) (h0 : I m0 δ)
    (hs : ∀ m δ1, I m δ1 → ∃ b, Tvd K t δ1 b ∧ (b = true → Std K ts δ1 { D with nx := fun δ2 => ∃ m', m' < m ∧ I m' δ2, ct := fun δ2 => ∃ m', m' < m ∧ I m' δ2, bk := D.nx }) ∧ (b = false → D.nx δ1)) : Std K (tWhile t ts) δ D := fun bp tp Ge He bx G H σ E x er kn kr kb kc => by
  refine ⟨fun m σ' H' => ∃ bx' G' δ', Ext bp Ge He G' H' ∧ Same G G' ∧ ER K bp He bx' G' H' σ' δ' ∧ I m δ', ⟨m0, bx, G, δ, x, Same.refl G, er, h0⟩, ?_⟩
  rintro m σ' H' ⟨bx', G', δ', x2, s2, er2, hI⟩
  obtain ⟨b, hb, h1, h2⟩ := hs m δ' hI
  refine hb bp He bx' σ' G' H' x2.le er2 _ fun G1 H1 x1 => ?_
  have x3 := x2.trans (x1.none_to (bx := bp))
  have s3 := s2.trans x1.gg
  cases b with
  | true =>
    refine iteT ⟨fun σ3 H3 => ∃ m', m' < m ∧ ∃ bx' G' δ', Ext bp Ge He G' H3 ∧ Same G G' ∧ ER K bp He bx' G' H3 σ3 δ' ∧ I m' δ', fun σ3 H3 ⟨m', hm, z⟩ => ⟨m', hm, z⟩, ?_⟩
    have kI : KN K bp Ge He G1 (fun δ2 => ∃ m', m' < m ∧ I m' δ2) (fun σ3 H3 => ∃ m', m' < m ∧ ∃ bx' G' δ', Ext bp Ge He G' H3 ∧ Same G G' ∧ ER K bp He bx' G' H3 σ3 δ' ∧ I m' δ') := fun bx5 G5 H5 σ5 δ5 x5 s5 er5 ⟨m', hm, p5⟩ =>
      ⟨m', hm, bx5, G5, δ5, x5, s3.trans s5, er5, p5⟩
    exact h1 rfl bp tp Ge He bx' G1 H1 σ' { E with nx := _, ct := _, bk := E.nx } x3 (er2.lift x1) kI (kr.lift s3) (kn.lift s3) kI
  | false => exact iteF (kn bx' G1 H1 σ' δ' x3 s3 (er2.lift x1) (h2 rfl))
/-- a list of one's own is written no more -/
theorem std_frz {i : Nat} (h : δ[i]? = some (.own ds)) (k : Std K ts (δ.set i (.rep (.lst ds))) D) : Std K ts δ D := fun bp tp Ge He bx G H σ E x er kn kr kb kc => by
  obtain ⟨l, vs, e, a, b, c, r, n⟩ := er.ownAt h
  have x2 : Ext bp Ge He (upd G l (.lst vs)) H := x.known a b c
  have s2 : Same G (upd G l (.lst vs)) := same_known b
  have hσ : σ.set i (some (.ref l)) = σ := by
    refine List.ext_getElem? fun k => ?_
    by_cases hk : i = k
    · subst hk
      rw [e, List.getElem?_set_self (List.getElem?_eq_some_iff.mp e).1]
    · rw [List.getElem?_set_ne hk]
  have er2 : ER K bp He bx (upd G l (.lst vs)) H σ (δ.set i (.rep (.lst ds))) := by
    refine ⟨by rw [List.length_set]; exact er.len, fun j en hj => ?_, fun j k ds' es' l' ne h1 h2 h3 => ?_, er.bxo, fun b hb => ⟨(er.bxt b hb).1, by rw [upd_ne (fun z => n (by rw [hb, z]))]; exact (er.bxt b hb).2⟩, er.bxp⟩
    · by_cases hij : i = j
      · subst hij
        rw [List.getElem?_set_self (List.getElem?_eq_some_iff.mp h).1] at hj
        cases hj
        rw [e]
        exact ⟨_, rfl, .lst upd_same (r.mono s2)⟩
      · rw [List.getElem?_set_ne hij] at hj
        have z := er.at_ j en hj
        cases en with
        | any => trivial
        | rep d =>
          obtain ⟨v, e, r⟩ := z
          exact ⟨v, e, r.mono s2⟩
        | own ds' =>
          obtain ⟨l', vs', e', a', b', c', r', n'⟩ := z
          have ne : l' ≠ l := fun y => by
            subst y
            exact er.sep i j ds ds' l' hij h hj e (join_some e')
          exact ⟨l', vs', e', a', by rw [upd_ne ne]; exact b', c', r'.mono s2, n'⟩
        | dct ds' =>
          obtain ⟨l', vs', e', a', b', c', r', n'⟩ := z
          have ne : l' ≠ l := fun y => by
            subst y
            rw [c] at c'; cases c'
          exact ⟨l', vs', e', a', by rw [upd_ne ne]; exact b', c', r'.mono s2, n'⟩
        | box m =>
          obtain ⟨b0, c0, c1, c2, e', e2, g, c', r'⟩ := z
          have ne : b0 ≠ l := fun y => n (by rw [e2, y])
          exact ⟨b0, c0, c1, c2, e', e2, by rw [upd_ne ne]; exact g, c', r'⟩
    · have n1 : i ≠ j := fun z => by
        subst z
        rw [List.getElem?_set] at h1
        split at h1 <;> simp_all
      have n2 : i ≠ k := fun z => by
        subst z
        rw [List.getElem?_set] at h2
        split at h2 <;> simp_all
      rw [List.getElem?_set_ne n1] at h1
      rw [List.getElem?_set_ne n2] at h2
      exact er.sep j k ds' es' l' ne h1 h2 h3
  exact k bp tp Ge He bx _ H σ E x2 er2 (kn.lift s2) (kr.lift s2) (kb.lift s2) (kc.lift s2)
theorem Std.mono {D' : Po} (h : Std K ts δ D) (a : ∀ δ, D.nx δ → D'.nx δ) (b : ∀ d δ, D.rt d δ → D'.rt d δ) (c : ∀ δ, D.bk δ → D'.bk δ) (e : ∀ δ, D.ct δ → D'.ct δ) (f : D.top = D'.top) : Std K ts δ D' := fun bp tp Ge He bx G H σ E x er kn kr kb kc =>
  h bp (f ▸ tp) Ge He bx G H σ E x er (fun _ _ _ _ _ x s r p => kn _ _ _ _ _ x s r (a _ p)) (fun _ _ _ _ _ _ _ x s r q p => kr _ _ _ _ _ _ _ x s r q (b _ _ p)) (fun _ _ _ _ _ x s r p => kb _ _ _ _ _ x s r (c _ p)) (fun _ _ _ _ _ x s r p => kc _ _ _ _ _ x s r (e _ p))

/-! ### lists of one's own are written -/
theorem ER.mutOwn {bp bx : Option Addr} {He G H : Hp} {σ : L2.St} {i : Nat} {l : Addr} {vs : List V} {ds' : List Da} (E : ER K bp He bx G H σ δ) (h : δ[i]? = some (.own ds)) (e : σ[i]? = some (some (.ref l))) (r : Reps K G vs ds') :
    ER K bp He bx G (upd H l (.lst vs)) σ (δ.set i (.own ds')) := by
  obtain ⟨l2, vs2, e2, a2, b2, c2, r2, n2⟩ := E.ownAt h
  rw [e] at e2
  cases e2
  have hi := (List.getElem?_eq_some_iff.mp h).1
  refine ⟨by rw [List.length_set]; exact E.len, fun j en hj => ?_, fun j k ds1 es1 l' ne h1 h2 h3 => ?_, E.bxo, fun b hb => ⟨by rw [upd_ne (fun z => n2 (by rw [hb, z]))]; exact (E.bxt b hb).1, (E.bxt b hb).2⟩, E.bxp⟩
  · by_cases hij : i = j
    · subst hij
      rw [List.getElem?_set_self hi] at hj
      cases hj
      rw [e]
      exact ⟨l, vs, rfl, a2, b2, upd_same, r, n2⟩
    · rw [List.getElem?_set_ne hij] at hj
      have z := E.at_ j en hj
      cases en with
      | any => trivial
      | rep d => exact z
      | own ds1 =>
        obtain ⟨l', vs', e', a', b', c', r', n'⟩ := z
        have ne : l' ≠ l := fun y => by
          subst y
          exact E.sep i j ds ds1 l' hij h hj e (join_some e')
        exact ⟨l', vs', e', a', b', by rw [upd_ne ne]; exact c', r', n'⟩
      | dct ds1 =>
        obtain ⟨l', vs', e', a', b', c', r', n'⟩ := z
        have ne : l' ≠ l := fun y => by
          subst y
          rw [c2] at c'; cases c'
        exact ⟨l', vs', e', a', b', by rw [upd_ne ne]; exact c', r', n'⟩
      | box m =>
        obtain ⟨b0, c0, c1, c3, e', e2, g, c', r'⟩ := z
        have ne : b0 ≠ l := fun y => n2 (by rw [e2, y])
        exact ⟨b0, c0, c1, c3, e', e2, g, by rw [upd_ne ne]; exact c', r'⟩
  · have f : ∀ (m : Nat) (ms : List Da), (δ.set i (En.own ds'))[m]? = some (En.own ms) → ∃ ms' : List Da, δ[m]? = some (En.own ms') := fun m ms hm => by
      by_cases him : i = m
      · subst him; exact ⟨ds, h⟩
      · rw [List.getElem?_set_ne him] at hm; exact ⟨ms, hm⟩
    obtain ⟨m1, g1⟩ := f j ds1 h1
    obtain ⟨m2, g2⟩ := f k es1 h2
    exact E.sep j k m1 m2 l' ne g1 g2 h3
/-- xs.append(e) -/
theorem std_app {i : Nat} (h : δ[i]? = some (.own ds)) (he : Evd K te δ d) (hz : ds.length < 100000) (k : D.nx (δ.set i (.own (ds ++ [d])))) : Std K (tDrop (tBM K "list" rAppend (tVar i) (tCons te tNil))) δ D := fun bp tp Ge He bx G H σ E x er kn kr kb kc => by
  obtain ⟨l, vs, e, a, b, c, r, n⟩ := er.ownAt h
  refine ⟨.ref l, e, .inl ⟨rfl, vs, SqL.of c⟩, he bp He bx σ G H x.le er _ fun v G1 H1 x1 r1 => ?_⟩
  have er1 := er.lift x1
  have c1 : H1 l = some (.lst vs) := x1.hh l _ (fun z => nomatch z) c
  have b1 : G1 l = none := (x1.gs l (by rw [c]; exact fun z => nomatch z)).trans b
  refine ⟨l, vs, v, rfl, rfl, c1, len_lt (by rw [r.len]; exact hz), ?_⟩
  exact kn bx G1 _ σ _ ((x.trans x1.none_to).mut a b1) x1.gg (er1.mutOwn h e ((r.mono x1.gg).app (.cons r1 .nil))) k
end
end R
set_option maxHeartbeats 4123456
/-! R5: defs: promises, calls, bodies. -/
namespace R
open PySem L2
/-- a def that only reads: for the arguments ds it hands back some r with P ds r -/
def PuSp (K : PySem.W.Frag) (P : List Da → Da → Prop) : Sp := fun vs H Q _ => ∃ G ds r, Same G H ∧ Reps K G vs ds ∧ P ds r ∧ ∀ v G' H', Ext none G H G' H' → Rep K G' v r → Q v H'
/-- a def that draws from the box, its first argument: at most c ds draws, some r with P ds r -/
def BxSp (K : PySem.W.Frag) (c : List Da → Nat) (pre : List Da → Prop) (P : List Da → Da → Prop) : Sp := fun vs H Q _ => ∃ G b us ds n c0 c1 c2, vs = .ref b :: us ∧ Same G H ∧ G b = none ∧
  H b = some (.lst [.int c0, .int c1, .int c2]) ∧ BoxV c0 c1 c2 n ∧ n + c ds ≤ 1000000 ∧ Reps K G us ds ∧ pre ds ∧ ∀ v d G' H', Ext (some b) G H G' H' → BoxStep (some b) H H' (c ds) → Rep K G' v d → P ds d → Q v H'
def envOf (N : List Str) (δ : List En) : List En := δ ++ List.replicate (N.length - δ.length) .any
section
variable {K : PySem.W.Frag} {δ δ1 δ2 : List En} {ta tb tc te tx tl : TE} {d d0 d1 d2 d3 r : Da} {ds es : List Da} {P : List Da → Da → Prop} {E : XK}
theorem evd_call {t : TA} (h : EvdA K t δ ds) (p : P ds r) : Evd K (tCall (PuSp K P) [] E t) δ r := fun bp He bx σ G H le E Q q =>
  h bp He bx σ G H le E _ fun vs G1 H1 x1 r1 => ⟨G1, ds, r, x1.le, by rw [List.append_nil]; exact r1, p, fun v G2 H2 x2 r2 => q v G2 H2 (x1.trans x2) r2⟩
/-- with flat defaults -/
theorem evd_callD {t : TA} {fs : List Da} (h : EvdA K t δ ds) (f : fs.all flatD = true) (p : P (ds ++ fs) r) : Evd K (tCall (PuSp K P) (fs.map toV) E t) δ r := fun bp He bx σ G H le E Q q =>
  h bp He bx σ G H le E _ fun vs G1 H1 x1 r1 => ⟨G1, ds ++ fs, r, x1.le, r1.app (by
    clear p
    induction fs with
    | nil => exact .nil
    | cons d fs ih =>
      rw [List.all_cons, Bool.and_eq_true] at f
      exact .cons (rep_toV f.1) (ih f.2)), p, fun v G2 H2 x2 r2 => q v G2 H2 (x1.trans x2) r2⟩
theorem evd_call0 (p : P [] r) : Evd K (tCall (PuSp K P) [] E tNil) δ r := evd_call eva_nil p
/-- the box drawn from -/
theorem eve_call {i n c' : Nat} {c : List Da → Nat} {pre : List Da → Prop} {t : TA} (hi : δ[i]? = some (.box n)) (h : EvdA K t δ ds) (hn : n + c ds ≤ 1000000) (hp : pre ds) (hc : c ds ≤ c') :
    Eve K (tCall (BxSp K c pre P) [] E (tCons (tVar i) t)) δ c' (P ds) := fun bp He bx σ G H le er Q q => by
  obtain ⟨b, c0, c1, c2, e, e2, g, hb, v⟩ := er.boxAt hi
  refine ⟨.ref b, e, h bp He bx σ G H le er _ fun vs G1 H1 x1 r1 => ?_⟩
  have hb1 : H1 b = some (.lst [.int c0, .int c1, .int c2]) := x1.hh b _ (fun z => nomatch z) hb
  have g1 : G1 b = none := (x1.gs b (by rw [hb]; exact fun z => nomatch z)).trans g
  refine ⟨G1, b, vs, ds, n, c0, c1, c2, by rw [List.append_nil], x1.le, g1, hb1, v, hn, r1, hp, fun v d G2 H2 x2 b2 r2 p2 => ?_⟩
  subst e2
  exact q v d G2 H2 (x1.none_to.trans x2) (((x1.boxStep 0).trans b2).mono (by omega)) r2 p2
/-- .. with arguments that draw themselves -/
theorem eve_callE {i n k c' : Nat} {c : List Da → Nat} {pre : List Da → Prop} {t : TA} {PA : List Da → Prop} (hi : δ[i]? = some (.box n)) (h : EveA K t δ k PA) (hn : ∀ ds, PA ds → n + k + c ds ≤ 1000000 ∧ pre ds ∧ k + c ds ≤ c') :
    Eve K (tCall (BxSp K c pre P) [] E (tCons (tVar i) t)) δ c' (fun r => ∃ ds, PA ds ∧ P ds r) := fun bp He bx σ G H le er Q q => by
  obtain ⟨b, c0, c1, c2, e, e2, g, hb, v⟩ := er.boxAt hi
  refine ⟨.ref b, e, h bp He bx σ G H le er _ fun vs ds G1 H1 x1 b1 r1 p1 => ?_⟩
  subst e2
  obtain ⟨e0, e1, e3, hb1, v1⟩ := b1 b c0 c1 c2 n rfl hb v
  have g1 : G1 b = none := (x1.gs b (by rw [hb]; exact fun z => nomatch z)).trans g
  obtain ⟨m1, m2, m3⟩ := hn ds p1
  refine ⟨G1, b, vs, ds, n + k, e0, e1, e3, by rw [List.append_nil], x1.le, g1, hb1, v1, m1, r1, m2, fun v d G2 H2 x2 b2 r2 p2 => ?_⟩
  exact q v d G2 H2 (x1.trans x2) ((b1.trans b2).mono m3) r2 ⟨ds, p1, p2⟩
theorem eveA_cons {k1 k2 : Nat} {P1 : Da → Prop} {P2 : List Da → Prop} {tr : TA} (h : Eve K ta δ k1 P1) (hr : Eve K ta δ k1 P1 → EveA K tr (bmp k1 δ) k2 P2) : EveA K (tCons ta tr) δ (k1 + k2) (fun ds => ∃ d r, ds = d :: r ∧ P1 d ∧ P2 r) := fun bp He bx σ G H le er Q q =>
  h bp He bx σ G H le er _ fun v d G1 H1 x1 b1 r1 p1 => hr h bp He bx σ G1 H1 x1.le (er.step x1 b1) _ fun vs ds G2 H2 x2 b2 r2 p2 =>
    q (v :: vs) (d :: ds) G2 H2 (x1.trans x2) (b1.trans b2) (.cons (r1.mono x2.gg) r2) ⟨d, ds, rfl, p1, p2⟩
theorem eveA_nil : EveA K tNil δ 0 (· = []) := eva_nil.eve

/-! ### bodies -/
theorem start_get {N : List Str} {vs : List V} {i : Nat} {v : V} (h : vs[i]? = some v) : (L2.start N vs)[i]? = some (some v) := by
  unfold L2.start
  rw [List.getElem?_append_left (by rw [List.length_map]; exact (List.getElem?_eq_some_iff.mp h).1), List.getElem?_map, h]; rfl
theorem start_len {N : List Str} {vs : List V} (h : vs.length ≤ N.length) : (L2.start N vs).length = N.length := by
  unfold L2.start
  rw [List.length_append, List.length_map, List.length_replicate]; omega
theorem envOf_len {N : List Str} {δ : List En} (h : δ.length ≤ N.length) : (envOf N δ).length = N.length := by
  unfold envOf
  rw [List.length_append, List.length_replicate]; omega
theorem envOf_get {N : List Str} {δ : List En} {i : Nat} {en : En} (h : (envOf N δ)[i]? = some en) (ne : en ≠ .any) : δ[i]? = some en := by
  unfold envOf at h
  by_cases hi : i < δ.length
  · rwa [List.getElem?_append_left hi] at h
  · rw [List.getElem?_append_right (by omega), List.getElem?_replicate] at h
    split at h <;> cases h
    exact absurd rfl ne
theorem er_start {N : List Str} {vs : List V} {G H : Hp} (rs : Reps K G vs ds) (hN : ds.length ≤ N.length) : ER K none H none G H (L2.start N vs) (envOf N (ds.map .rep)) := by
  have l1 := rs.len
  refine ⟨by rw [start_len (by omega), envOf_len (by rw [List.length_map]; exact hN)], fun i en h => ?_, fun i j a b l ne h1 h2 h3 => ?_, (fun b e => nomatch e), (fun b e => nomatch e), (fun b e => nomatch e)⟩
  · cases en with
    | any => trivial
    | rep d =>
      have q := envOf_get h (fun z => nomatch z)
      rw [List.getElem?_map] at q
      cases e : ds[i]? with
      | none => rw [e] at q; cases q
      | some d' =>
        rw [e] at q; cases q
        obtain ⟨v, e1, r1⟩ := rs.get e
        exact ⟨v, by rw [start_get e1]; rfl, r1⟩
    | own _ =>
      have q := envOf_get h (fun z => nomatch z)
      rw [List.getElem?_map] at q
      cases e : ds[i]? <;> rw [e] at q <;> cases q
    | dct _ =>
      have q := envOf_get h (fun z => nomatch z)
      rw [List.getElem?_map] at q
      cases e : ds[i]? <;> rw [e] at q <;> cases q
    | box _ =>
      have q := envOf_get h (fun z => nomatch z)
      rw [List.getElem?_map] at q
      cases e : ds[i]? <;> rw [e] at q <;> cases q
  · have q := envOf_get h1 (fun z => nomatch z)
    rw [List.getElem?_map] at q
    cases e : ds[i]? <;> rw [e] at q <;> cases q
theorem pu_body {N : List Str} {t : TS} {vs : List V} {H : Hp} {Q : VK} (h : PuSp K P vs H Q E) (hN : ∀ ds r, P ds r → ds.length ≤ N.length)
    (hb : ∀ ds r, P ds r → Std K t (envOf N (ds.map .rep)) { nx := fun _ => r = .non, rt := fun d _ => d = r }) : t { nx := fun _ H' => Q .non H', rt := Q } (L2.start N vs) H := by
  obtain ⟨G, ds, r, le, rs, p, q⟩ := h
  refine hb ds r p none (fun _ => rfl) G H none G H (L2.start N vs) _ (Ext.refl le) (er_start rs (hN ds r p)) ?_ ?_ (fun _ _ _ _ _ _ _ _ z => z) (fun _ _ _ _ _ _ _ _ z => z)
  · intro bx G' H' σ' δ' x s er e
    exact q .non G' H' x (e ▸ .non)
  · intro v d bx G' H' σ' δ' x s er rr e
    exact q v G' H' x (e ▸ rr)
theorem er_startB {N : List Str} {us : List V} {G H : Hp} {b : Addr} {c0 c1 c2 : Int} {n : Nat} (rs : Reps K G us ds) (hN : ds.length + 1 ≤ N.length) (g : G b = none) (hb : H b = some (.lst [.int c0, .int c1, .int c2])) (v : BoxV c0 c1 c2 n) :
    ER K (some b) H (some b) G H (L2.start N (.ref b :: us)) (envOf N (.box n :: ds.map .rep)) := by
  have l1 := rs.len
  refine ⟨by rw [start_len (by rw [List.length_cons]; omega), envOf_len (by rw [List.length_cons, List.length_map]; exact hN)], fun i en h => ?_, fun i j a b' l ne h1 h2 h3 => ?_, fun b' e => .inl e, fun b' e => ?_, fun b' e => e⟩
  · cases en with
    | any => trivial
    | rep d =>
      have q := envOf_get h (fun z => nomatch z)
      cases i with
      | zero => cases q
      | succ i =>
        have q : (ds.map En.rep)[i]? = some (.rep d) := q
        rw [List.getElem?_map] at q
        cases e : ds[i]? with
        | none => rw [e] at q; cases q
        | some d' =>
          rw [e] at q; cases q
          obtain ⟨v, e1, r1⟩ := rs.get e
          exact ⟨v, by rw [start_get (show (V.ref b :: us)[i + 1]? = some v from e1)]; rfl, r1⟩
    | own _ =>
      have q := envOf_get h (fun z => nomatch z)
      cases i with
      | zero => cases q
      | succ i =>
        have q : (ds.map En.rep)[i]? = _ := q
        rw [List.getElem?_map] at q
        cases e : ds[i]? <;> rw [e] at q <;> cases q
    | dct _ =>
      have q := envOf_get h (fun z => nomatch z)
      cases i with
      | zero => cases q
      | succ i =>
        have q : (ds.map En.rep)[i]? = _ := q
        rw [List.getElem?_map] at q
        cases e : ds[i]? <;> rw [e] at q <;> cases q
    | box m =>
      have q := envOf_get h (fun z => nomatch z)
      cases i with
      | zero =>
        cases q
        exact ⟨b, c0, c1, c2, rfl, rfl, g, hb, v⟩
      | succ i =>
        have q : (ds.map En.rep)[i]? = _ := q
        rw [List.getElem?_map] at q
        cases e : ds[i]? <;> rw [e] at q <;> cases q
  · have q := envOf_get h1 (fun z => nomatch z)
    cases i with
    | zero => cases q
    | succ i =>
      have q : (ds.map En.rep)[i]? = _ := q
      rw [List.getElem?_map] at q
      cases e : ds[i]? <;> rw [e] at q <;> cases q
  · cases e
    exact ⟨(by rw [hb]; exact (fun z => nomatch z)), g⟩
theorem bx_body {N : List Str} {t : TS} {vs : List V} {H : Hp} {Q : VK} {c : List Da → Nat} {pre : List Da → Prop} (h : BxSp K c pre P vs H Q E) (hN : ∀ ds, pre ds → ds.length + 1 ≤ N.length)
    (hb : ∀ n ds, n + c ds ≤ 1000000 → pre ds → Std K t (envOf N (.box n :: ds.map .rep)) { nx := fun _ => False, rt := fun d δ' => P ds d ∧ ∃ m, m ≤ n + c ds ∧ δ'[0]? = some (.box m) }) : t { nx := fun _ H' => Q .non H', rt := Q } (L2.start N vs) H := by
  obtain ⟨G, b, us, ds, n, c0, c1, c2, rfl, le, g, hb0, v, hn, rs, hp, q⟩ := h
  have v2 : BoxV c0 c1 c2 c2.toNat := ⟨v.1, v.2.1, v.2.2.1, v.2.2.2.1, by have := v.2.2.2.1; omega⟩
  have hc : c2.toNat ≤ n := by have := v.2.2.2.1; have := v.2.2.2.2; omega
  refine hb c2.toNat ds (by omega) hp (some b) (fun z => nomatch z) G H (some b) G H (L2.start N (.ref b :: us)) _ (Ext.refl le) (er_startB rs (hN ds hp) g hb0 v2) ?_ ?_ (fun _ _ _ _ _ _ _ _ z => z) (fun _ _ _ _ _ _ _ _ z => z)
  · intro bx G' H' σ' δ' x s er e
    exact e.elim
  · intro v' d bx G' H' σ' δ' x s er rr ⟨pd, m, hm, e⟩
    refine q v' d G' H' x (fun b' e0 e1 e2 n' eb hb' v' => ?_) rr pd
    cases eb
    rw [hb0] at hb'
    cases hb'
    obtain ⟨b2, f0, f1, f2, g1, g2, g3, g4, g5⟩ := er.boxAt e
    have : bx = some b := er.bxp b rfl
    rw [this] at g2
    cases g2
    exact ⟨f0, f1, f2, g4, g5.mono (by have := v'.2.2.2.1; have := v'.2.2.2.2; omega)⟩
end
end R
set_option maxHeartbeats 4123456
/-! R6: further rules for Python's constructs. -/
namespace R
open PySem L2
section
variable {X : Cx} {a b c e o : Expr} {te ta tb : TE} {p pos apos cpos : Pos}
/-- a text so many times -/
def repS (z : Str) (k : Nat) : Str := ⟨(List.replicate k z.cps).foldl (· ++ ·) #[]⟩
def rMulS : R2 := fun x y H Q => ∃ z n, x = .str z ∧ y = .int n ∧ 0 ≤ n ∧ n ≤ 1000 ∧ z.length ≤ 1000 ∧ Q (.str (repS z n.toNat)) H
theorem foldl_len : ∀ (l : List (Array Nat)) (acc : Array Nat), (l.foldl (· ++ ·) acc).size = acc.size + (l.map Array.size).sum
  | [], acc => by simp
  | x :: l, acc => by
    rw [List.foldl_cons, foldl_len l, Array.size_append, List.map_cons, List.sum_cons]; omega
theorem repS_len (z : Str) (k : Nat) : (repS z k).length = k * z.length := by
  show (List.foldl (· ++ ·) #[] (List.replicate k z.cps)).size = _
  rw [foldl_len, List.map_replicate, List.sum_replicate_nat]
  simp
  rfl
theorem op_mulS : OpR X (binaryOp .Mult) rMulS := by
  intro pins s σ H x y v u Q I rx ry h
  obtain ⟨z, n, rfl, rfl, h0, h1, hz, q⟩ := h
  obtain ⟨t, rfl⟩ := rx
  obtain ⟨t', rfl⟩ := ry
  have hm : z.length * n.toNat ≤ 1000 * 1000 := Nat.mul_le_mul hz (by omega)
  refine PySem.P.mul_str (by
      have e1 : decide (n < -(2 ^ 63 : Int)) = false := decide_eq_false (by omega)
      have e2 : decide (n ≥ 2 ^ 63) = false := decide_eq_false (by omega)
      rw [e1, e2]; rfl) (fun hn _ => ?_) (fun _ _ => ?_) ?_
  · have : (1000 : Int) ≤ (2 ^ 63 - 1) / n := by
      rw [Int.le_ediv_iff_mul_le (by omega)]; omega
    omega
  · unfold Builtin.Str.tooLong
    have e : sizeLine = 16777216 := sizeLine_eq
    simp
    omega
  · have fin : ∀ {w : Str} {tk : Nat} {s' : Shared} {t'' : Tok}, s' = { s with toks := tk } → w = repS z n.toNat → EP X pins σ Q (.str w t'') s' := by
      rintro w tk s' t'' rfl rfl
      exact ⟨.str _, H, I.tok _, ⟨_, rfl⟩, q⟩
    have hl : (repS z n.toNat).length ≤ sizeLine := by
      rw [repS_len, Nat.mul_comm]
      exact Nat.le_trans hm (by decide)
    by_cases c1 : n < 1
    · rw [if_pos c1]
      have e0 : n.toNat = 0 := by omega
      exact ⟨by decide, fin (s' := { s with toks := s.toks + 1 }) rfl (by rw [e0]; rfl)⟩
    · rw [if_neg c1]
      by_cases c2 : (n == 1 || z.length == 0) = true
      · rw [if_pos c2]
        refine fin (s' := s) (tk := s.toks) rfl ?_
        rw [Bool.or_eq_true] at c2
        rcases c2 with c2 | c2
        · have e1 : n.toNat = 1 := by have := beq_iff_eq.mp c2; omega
          rw [e1]
          show z = ⟨#[] ++ z.cps⟩
          rw [Array.empty_append]
        · have e0 : z.cps.size = 0 := beq_iff_eq.mp c2
          have e1 := repS_len z n.toNat
          have e2 : (repS z n.toNat).cps.size = 0 := by
            have : (repS z n.toNat).length = n.toNat * z.cps.size := e1
            rw [e0, Nat.mul_zero] at this
            exact this
          have e3 : z.cps = #[] := Array.eq_empty_of_size_eq_zero e0
          have e4 : (repS z n.toNat).cps = #[] := Array.eq_empty_of_size_eq_zero e2
          cases z with
          | mk zc =>
            dsimp only at e3
            subst e3
            show _ = _
            generalize repS ⟨#[]⟩ n.toNat = w at e4
            cases w
            dsimp only at e4
            rw [e4]
      · rw [if_neg c2]
        exact ⟨hl, fin (s' := { s with toks := s.toks + 1 }) rfl rfl⟩

/-- max(e, default=c) of ints -/
def maxI (k : Int) : List Int → Int
  | [] => k
  | n :: ns => ns.foldl max n
def rMaxD (K : PySem.W.Frag) : List V → List V → Hp → VK → Prop := fun vs zs H Q => ∃ (a : Addr) (ns : List Int) (k : Int), vs = [V.ref a] ∧ zs = [V.int k] ∧ SqL K H a (ns.map V.int) ∧ Q (.int (maxI k ns)) H
theorem reads_ints {h : Heap} : ∀ {ns : List Int} {us : List Value}, Vals (ns.map V.int) us → ReadsAll h us (ns.map PyData.int) []
  | [], _, .nil => .nil
  | n :: ns, _, .cons r t => by
    obtain ⟨tk, rfl⟩ := r
    exact .cons (as := []) (bs := []) (.int n tk) (reads_ints t)
theorem cr_maxD (hc : X.calm = true) (hr : ∃ k, Room k X.A) : CallRK X (.builtin "max") [Str.ofString "default"] (rMaxD X.K) := by
  intro pins s σ H vs zs us ws Q I r rz h
  obtain ⟨a, ns, k, rfl, rfl, hs, q⟩ := h
  obtain ⟨kr, hr⟩ := hr
  obtain rfl := Vals.ref1 r
  obtain ⟨u1, rfl, t, rfl⟩ := vals1 rz
  obtain ⟨its, rv, hl, hz⟩ := I.list hs
  have rd : ReadsAll s.heap its.toArray.toList (ns.map PyData.int) [] := by rw [List.toList_toArray]; exact reads_ints rv
  have al : PySem.W.AlikeAll (ns.map PyData.int) := by
    refine ⟨fun x hx y hy => ?_, fun x hx => ?_⟩
    · obtain ⟨i, _, rfl⟩ := List.mem_map.mp hx
      obtain ⟨j, _, rfl⟩ := List.mem_map.mp hy
      simp [PySem.W.alike]
    · obtain ⟨i, _, rfl⟩ := List.mem_map.mp hx
      exact fun z => nomatch z
  show wpAny _ _ (call (.builtin "max") [.ref a] [(Str.ofString "default", .int k t)]) _ _ _
  refine PySem.W.max_list_default (I.ok.hd hc) hl.isList rd al ?_ (fun e h' tk kp => ?_) fun y ys i v h' tk bs e ev rv' kp => ?_
  · have := hr.un
    rw [PySem.W.depth_ints]; omega
  · have e0 : ns = [] := List.map_eq_nil_iff.mp e
    subst e0
    exact ⟨.int k, H, I.kept kp, ⟨t, rfl⟩, q⟩
  · cases ns with
    | nil => cases e
    | cons n ns =>
      rw [List.map_cons] at e
      cases e
      rw [PySem.W.maxD_ints] at rv'
      cases rv'
      exact ⟨.int _, H, I.kept kp, ⟨_, rfl⟩, q⟩

/-- list(d.items()), d a dict that is locked: the tuples and the list are new -/
def rItemsF : V → Hp → VK → Prop := fun x H Q => ∃ (d : Addr) (o : Obj) (kvs : List (Key × V)), x = .ref d ∧ H d = some (.frz o (.dK kvs)) ∧
  ∀ (H' : Hp) (p : Addr) (ts : List Addr), Same H H' → H p = none → (∀ t ∈ ts, H t = none) → p ∉ ts → H' p = some (.lst (ts.map V.ref)) →
    Paired (fun (t : Addr) (q : Key × V) => H' t = some (.tup [kV q.1, q.2])) ts kvs → Q (.ref p) H'
def tItemsF (te : TE) : TE := fun σ H Q => te σ H fun x H1 => rItemsF x H1 Q
theorem pe_itemsF (hc : X.calm = true) (he : PE X e te) (hg : Gl X "list") (hm : X.mg "list" = none) (hv : bootBuiltins "list" = some (.type "list"))
    (hbase : attributeBase e "items" X.env (eval e X.env) = eval e X.env := by rfl) (hline : (apos.endLine == cpos.line) = true := by rfl)
    (hs : starEach [.Call (.Attribute e "items" apos) [] [] cpos] X.env = (false, eval (.Call (.Attribute e "items" apos) [] [] cpos) X.env) :: starEach [] X.env := by rfl) :
    PE X (.Call (.Name "list" p) [.Call (.Attribute e "items" apos) [] [] cpos] [] pos) (tItemsF te) := by
  refine ⟨fun pins s σ H Q I hq => ?_⟩
  refine wpAny_Call_Name_kw (ld_blt I hg hm hv (PyProof.Rows.callWith_type1 ?_ hs rfl))
  rw [hs]
  refine Calls.spliced_cons (wpAny_Call_method (T := "dict") (id := "dict.items") hbase rfl hline F.plainAttrs_dict F.slot_dict_items F.type_dict_items
    (thn (he.run pins s σ H _ I hq) fun u s1 ⟨x, H1, I1, rx, d, o, kvs, ex, hd, q⟩ => ?_))
  subst ex
  obtain rfl : u = Value.ref d := rx
  obtain ⟨_, hz, hs0, vs, kv, hdo⟩ := I1.hok d _ hd
  obtain ⟨ep, hat⟩ := hdo.dictAt
  have lk : kvs.length = vs.length := Paired.length kv
  have I2 : Inv X pins σ H1 { s1 with heap := s1.heap.push { cls := .type "dict_items", data := .fields #[.ref d] } } :=
    I1.kept (t' := s1.toks) fun b ob q => Heap.get?_push_of_some _ q
  refine ⟨hdo.typeIs, hdo.mapOf.noDict, ?_⟩
  show wpAny _ _ (callWith cpos (.builtin "dict.items") [.ref d] [] []) _ X.xe s1
  refine method_meetsIn F.slot_dict_items F.entry_dict_items rfl
    (PySem.evalArgs_none ⟨rfl, hdo.typeIs, F.args_dict_items_1 _, _, meets_dict_items (mixKind X.prog X.w) d hs0, ⟨vs, hdo⟩, ?_⟩)
  refine Calls.spliced_nil (PySem.W.kdx_call (knd := mixKind X.prog X.w) (kvs := vs) (ep := ep) (I1.ok.hd hc)
    ⟨_, Heap.get?_push_size _ rfl, rfl, rfl⟩ (hat.push _) (by omega) fun h' tk acc c as hk hS hl hG hacc => ?_)
  obtain ⟨H', k1, k2, k3, k4, k5, k6, J⟩ := LiI.items_laid (tk := tk) I2 hz kv hk hS hl hG hacc
  refine ⟨.ref _, H', J, rfl, q H' _ as k1 k2 k3 k4 k5 k6⟩

/-- len(o), o of an own class with __len__ -/
def tLenOwn (K : PySem.W.Frag) (C : Addr) (sp : Sp) (ta : TE) : TE := fun σ H Q => ta σ H fun x H1 => ∃ a dx fs, x = .ref a ∧ H1 a = some (.ins C dx fs) ∧ sp [x] H1 (fun v H2 => ∃ n : Int, v = .int n ∧ 0 ≤ n ∧ n < 2 ^ 63 ∧ Q (.int n) H2) (fun _ _ _ => False)
theorem pe_lenOwn {C f : Addr} {k : Nat} {fd : FuncData} {ps : List Str} {sp : Sp} {CX : CXT} (ml : PySem.W.findIn X.K (.ref C) "__len__" = some (some (.ref f))) (hf : PySem.W.isFn X.K (.ref f) = true)
    (F : FnOk X.prog X.w X.K X.mg X.base CX k f fd ps sp) (hr : Room (k + 1) X.A) (hb : Binds X.K fd ps []) (hx : Passes CX X (fun _ _ _ => False)) (ha : PE X a ta) (hg : Gl X "len") (hm : X.mg "len" = none)
    (hs : starEach [a] X.env = (false, eval a X.env) :: starEach [] X.env := by rfl) : PE X (.Call (.Name "len" p) [a] [] pos) (tLenOwn X.K C sp ta) := by
  refine ⟨fun pins s σ H Q I h => ?_⟩
  refine wpAny_Call_Name_kw (ld_blt I hg hm PySem.boot_len (PyProof.Rows.callWith_builtin1 ?_ hs rfl))
  rw [hs]
  refine Calls.spliced_cons (thn (ha.run pins s σ H _ I h) fun u s1 ⟨x, H1, I1, rx, q, dx, fs, ex, hd, hq⟩ => Calls.spliced_nil ?_)
  subst ex
  obtain rfl : u = Value.ref q := rx
  obtain ⟨mA, O, _⟩ := ins_get I1.hok hd
  obtain ⟨od, J, _⟩ := O.look
  obtain ⟨m, fr⟩ := I1.fr
  refine PySem.W.len_K fr I1.ok.mod.kin J ml hf ?_
  have A1 : Room k X.A.in1 := hr.in1
  have e0 := I1.env0.in1
  have hl := F.len _ _ _ _ hq
  refine wpAny_call (codeAny_mono (F.run X.A.in1 X.stack s1 H1 ⟨[.ref q], []⟩ [.ref q] [.ref q] _ _ A1 e0 (by
    have := hb s1 [.ref q] I1.kIn (by rw [List.append_nil]; exact hl)
    rwa [List.append_nil] at this) (.cons rfl .nil) hq) fun r s' hq' => ?_)
  cases r with
  | error e => exact hx pins σ H1 s1 e s' I1 hq'
  | ok fl =>
    cases fl with
    | ret u' =>
      obtain ⟨v, H', I2, rv, n, ev, h0, h1, q2⟩ := I1.after hq'
      subst ev
      obtain ⟨t, rfl⟩ := rv
      exact ⟨⟨h0, h1⟩, .int n, H', I2.tok _, ⟨_, rfl⟩, q2⟩
    | next => exact False.elim hq'
    | brk => exact False.elim hq'
    | cont => exact False.elim hq'

/-- a dict that is written no more -/
def Da.isDic : HO → Prop
  | .dK _ => True
  | _ => False
def tFrz (te : TE) : TE := fun σ H Q => te σ H fun v H1 => ∃ d kvs, v = .ref d ∧ H1 d = some (.dK kvs) ∧ ∀ o, Q v (upd H1 d (.frz o (.dK kvs)))
theorem pe_frz (h : PE X e te) : PE X e (tFrz te) := by
  refine ⟨fun pins s σ H Q I hq => thn (h.run pins s σ H _ I hq) fun v s1 ⟨x, H1, I1, r1, d, kvs, ex, hd, q⟩ => ?_⟩
  obtain ⟨o, I2⟩ := I1.lock hd True.intro
  exact ⟨x, _, I2, r1, q o⟩
/-- .. ahead of the next statements: the dict in the field f of the instance in slot i -/
def tFrzS (ts : TS) : TS := fun D σ H => ∃ d kvs, H d = some (.dK kvs) ∧ ∀ o, ts D σ (upd H d (.frz o (.dK kvs)))
theorem pss_frz {sts : List Stmt} {ts : TS} (h : PSs X sts ts) : PSs X sts (tFrzS ts) := by
  refine ⟨fun pins s σ H D I hq => ?_⟩
  obtain ⟨d, kvs, hd, q⟩ := hq
  obtain ⟨o, I2⟩ := I.lock hd True.intro
  exact h.run pins s σ _ D I2 (q o)
/-- .. behind them -/
def tFrzE (ts : TS) : TS := fun D σ H => ts { D with nx := fun σ' H' => ∃ d kvs, H' d = some (.dK kvs) ∧ ∀ o, D.nx σ' (upd H' d (.frz o (.dK kvs))) } σ H
theorem pss_frzE {sts : List Stmt} {ts : TS} (h : PSs X sts ts) : PSs X sts (tFrzE ts) := by
  refine ⟨fun pins s σ H D I hq => thn (h.run pins s σ _ _ I hq) fun f s1 q => ?_⟩
  cases f with
  | next =>
    obtain ⟨σ', H', I', d, kvs, hd, q⟩ := q
    obtain ⟨o, I2⟩ := I'.lock hd True.intro
    exact ⟨σ', _, I2, q o⟩
  | ret v => exact q
  | brk => exact q
  | cont => exact q
end
end R
set_option maxHeartbeats 4123456
/-! R7: operations on data. -/
namespace R
open PySem L2
section
variable {K : PySem.W.Frag} {δ δ1 : List En} {ta tb tc te tx tl to : TE} {t u : TT} {d d0 d1 d2 d3 : Da} {ds es : List Da} {r r' : R2}
/-! ### texts -/
def rAddS : R2 := fun x y H Q => ∃ i j, x = .str i ∧ y = .str j ∧ i.length + j.length ≤ sizeLine ∧ Q (.str (i ++ j)) H
theorem op_addS {X : Cx} : OpR X (binaryOp .Add) rAddS := op_add_str
theorem op2_addS {x y : Str} (h : x.length + y.length ≤ 100000) : Op2 K rAddS (.str x) (.str y) (.str (x ++ y)) := fun v1 v2 G H le r1 r2 Q q =>
  ⟨x, y, r1.strI, r2.strI, len_line h, q _ G H (Ext.refl le) (.str _)⟩
theorem op2_mulS {z : Str} {n : Int} (h0 : 0 ≤ n) (h1 : n ≤ 1000) (h2 : z.length ≤ 1000) : Op2 K rMulS (.str z) (.int n) (.str (repS z n.toNat)) := fun v1 v2 G H le r1 r2 Q q =>
  ⟨z, n, r1.strI, r2.intI, h0, h1, h2, q _ G H (Ext.refl le) (.str _)⟩
def rJoin (K : PySem.W.Frag) : V → List V → Hp → VK → Prop := fun x xs H Q => ∃ a p, ∃ ys : List Str, x = .str a ∧ xs = [.ref p] ∧ (SqL K H p (ys.map V.str) ∨ SqT K H p (ys.map V.str)) ∧
    (ys.map (·.length)).sum + ys.length * a.length ≤ 16777216 ∧ Q (.str (Txt.join a ys)) H
theorem mt_joinR {X : Cx} : MtR X "str.join" (rJoin X.K) := mt_join
theorem toV_strs (ys : List Str) : (ys.map Da.str).map toV = ys.map V.str := by rw [List.map_map]; rfl
theorem evd_bm {T : String} {r : V → List V → Hp → VK → Prop} {tar : TA} (ho : Evd K to δ d0) (ha : EvdA K tar δ es) (ty : ∀ v G H, Same G H → Rep K G v d0 → tyV K T v H) (hr : Opm K r d0 es d) : Evd K (tBM K T r to tar) δ d :=
  fun bp He bx σ G H le E Q q => ho bp He bx σ G H le E _ fun v G1 H1 x1 r1 => ⟨ty v G1 H1 x1.le r1, ha bp He bx σ G1 H1 x1.le (E.lift x1) _ fun vs G2 H2 x2 r2 =>
    hr v vs G2 H2 x2.le (r1.mono x2.gg) r2 Q fun w G3 H3 x3 r3 => q w G3 H3 ((x1.trans x2).trans x3) r3⟩
theorem tyS {v : V} {G H : Hp} {z : Str} (le : Same G H) (r : Rep K G v (.str z)) : tyV K "str" v H := by rw [r.strI]; rfl
theorem opm_join {a : Str} {ys : List Str} (h : (ys.map (·.length)).sum + ys.length * a.length ≤ 16777216) : Opm K (rJoin K) (.str a) [.lst (ys.map .str)] (.str (Str.join a ys)) := fun v vs G H le r rs Q q => by
  cases rs with
  | cons r1 r2 =>
    cases r2
    cases r1 with
    | lst hx rr =>
      have e := rr.flat (flat_strs ys)
      rw [toV_strs] at e
      subst e
      refine ⟨a, _, ys, r.strI, rfl, .inl (SqL.of (le _ _ hx)), h, ?_⟩
      rw [TL.join_eq]
      exact q _ G H (Ext.refl le) (.str _)
theorem evd_join {a : Str} {ys : List Str} {te : TE} (ho : Evd K to δ (.str a)) (ha : Evd K te δ (.lst (ys.map .str))) (h : (ys.map (·.length)).sum + ys.length * a.length ≤ 16777216) : Evd K (tBM K "str" (rJoin K) to (tCons te tNil)) δ (.str (Str.join a ys)) :=
  evd_bm ho (eva_cons ha eva_nil) (fun v G H le r => tyS le r) (opm_join h)
/-- slices -/
theorem ovd_none : Ovd K tNoPart δ none := fun bp He bx σ G H le E Q q => q G H (Ext.refl le)
theorem ovd_some {i : Int} (h : Evd K te δ (.int i)) : Ovd K (tPart te) δ (some i) := fun bp He bx σ G H le E Q q => h bp He bx σ G H le E _ fun v G1 H1 x1 r1 => ⟨i, r1.intI, q G1 H1 x1⟩
theorem evd_slS {z : Str} {tlo thi : TO} {lo hi : Option Int} (h : Evd K te δ (.str z)) (h1 : Ovd K tlo δ lo) (h2 : Ovd K thi δ hi) (hz : z.length ≤ 100000) : Evd K (tSl rSlS te tlo thi) δ (.str (cutS z lo hi)) :=
  fun bp He bx σ G H le E Q q => h bp He bx σ G H le E _ fun v G1 H1 x1 r1 => h1 bp He bx σ G1 H1 x1.le (E.lift x1) _ fun G2 H2 x2 => h2 bp He bx σ G2 H2 x2.le (E.lift (x1.trans x2)) _ fun G3 H3 x3 =>
    ⟨z, r1.strI, len_line hz, q _ G3 H3 ((x1.trans x2).trans x3) (.str _)⟩
def cutD (ds : List Da) (lo hi : Option Int) : List Da := (ds.drop (HT.sIx ds.length 0 lo)).take (HT.sIx ds.length ds.length hi - HT.sIx ds.length 0 lo)
theorem Reps.cut {G : Hp} {vs : List V} {lo hi : Option Int} (h : Reps K G vs ds) : Reps K G (cutV vs lo hi) (cutD ds lo hi) := by
  unfold cutV cutD
  rw [h.len]
  exact (h.drop _).take _
theorem evo_slL {tlo thi : TO} {lo hi : Option Int} (h : Evd K te δ (.lst ds)) (h1 : Ovd K tlo δ lo) (h2 : Ovd K thi δ hi) : EvO K (tSl (rSlL K) te tlo thi) δ (cutD ds lo hi) :=
  fun bp He bx σ G H le E Q q => h bp He bx σ G H le E _ fun v G1 H1 x1 r1 => h1 bp He bx σ G1 H1 x1.le (E.lift x1) _ fun G2 H2 x2 => h2 bp He bx σ G2 H2 x2.le (E.lift (x1.trans x2)) _ fun G3 H3 x3 => by
    have x := (x1.trans x2).trans x3
    have r3 := r1.mono (x2.trans x3).gg
    cases r3 with
    | lst hx rs => exact ⟨_, _, rfl, SqL.of (x3.le _ _ hx), fun p hp => q p _ G3 _ (x.trans (Ext.own x3.le hp)) (x.free hp) (x3.le.free hp) upd_same rs.cut⟩

/-! ### lists -/
theorem op2o_cat (h : ds.length + es.length ≤ 100000) : Op2O K rCat (.lst ds) (.lst es) (ds ++ es) := fun v1 v2 G H le r1 r2 Q q => by
  cases r1 with
  | lst h1 s1 =>
    cases r2 with
    | lst h2 s2 => exact ⟨_, _, _, _, rfl, rfl, le _ _ h1, le _ _ h2, by rw [s1.len, s2.len]; exact len_line h, fun p hp => q p _ G _ (Ext.own le hp) hp (le.free hp) upd_same (s1.app s2)⟩
theorem reps_rep {G : Hp} {vs : List V} (h : Reps K G vs ds) : ∀ k : Nat, Reps K G (List.replicate k vs).flatten (List.replicate k ds).flatten
  | 0 => .nil
  | k + 1 => by
    rw [List.replicate_succ, List.replicate_succ, List.flatten_cons, List.flatten_cons]
    exact h.app (reps_rep h k)
theorem op2o_rep {n : Int} (h0 : 0 ≤ n) (h1 : n ≤ 1000) (h : ds.length ≤ 100) : Op2O K rRep (.lst ds) (.int n) (List.replicate n.toNat ds).flatten := fun v1 v2 G H le r1 r2 Q q => by
  cases r1 with
  | lst hx s1 =>
    have hm : ds.length * n.toNat ≤ 100 * 1000 := Nat.mul_le_mul h (by omega)
    exact ⟨_, n, _, rfl, r2.intI, le _ _ hx, by omega, by omega, by rw [s1.len]; exact len_line hm, fun p hp => q p _ G _ (Ext.own le hp) hp (le.free hp) upd_same (reps_rep s1 _)⟩
def rLenA (K : PySem.W.Frag) : List V → Hp → VK → Prop := fun xs H Q => ∃ x n, xs = [x] ∧ LenV K x H n ∧ Q (.int n) H
theorem call_lenA {X : Cx} : CallR X (.builtin "len") (rLenA X.K) := call_len
theorem opn_lenL : Opn K (rLenA K) [.lst ds] (.int ds.length) := fun vs G H le rs Q q => by
  cases rs with
  | cons r1 r2 =>
    cases r2
    cases r1 with
    | lst hx s => exact ⟨_, ds.length, rfl, .inl ⟨_, SqL.of (le _ _ hx), s.len.symm⟩, q _ G H (Ext.refl le) (.int _)⟩
theorem opn_lenT : Opn K (rLenA K) [.tup ds] (.int ds.length) := fun vs G H le rs Q q => by
  cases rs with
  | cons r1 r2 =>
    cases r2
    cases r1 with
    | tup hx s => exact ⟨_, ds.length, rfl, .inr ⟨_, sqT_same le hx, s.len.symm⟩, q _ G H (Ext.refl le) (.int _)⟩
theorem opn_lenC {ns : List Int} : Opn K (rLenA K) [.scr ns] (.int ns.length) := fun vs G H le rs Q q => by
  cases rs with
  | cons r1 r2 =>
    cases r2
    cases r1 with
    | scr hx => exact ⟨_, ns.length, rfl, .inl ⟨_, le.seq hx, (List.length_map _).symm⟩, q _ G H (Ext.refl le) (.int _)⟩
theorem opn_lenS {z : Str} (h : z.length ≤ 100000) : Opn K (rLenA K) [.str z] (.int z.length) := fun vs G H le rs Q q => by
  cases rs with
  | cons r1 r2 =>
    cases r2
    rw [r1.strI]
    exact ⟨_, z.length, rfl, ⟨len_line h, rfl⟩, q _ G H (Ext.refl le) (.int _)⟩
theorem toV_bls (bs : List Bool) : (bs.map Da.bl).map toV = bs.map V.bl := by rw [List.map_map]; rfl
theorem flat_bls (ns : List Bool) : (ns.map Da.bl).all flatD = true := by rw [List.all_map]; exact List.all_eq_true.mpr fun _ _ => rfl
theorem toV_ints (bs : List Int) : (bs.map Da.int).map toV = bs.map V.int := by rw [List.map_map]; rfl
theorem opn_all {bs : List Bool} : Opn K (rAll K) [.lst (bs.map .bl)] (.bl (bs.all id)) := fun vs G H le rs Q q => by
  cases rs with
  | cons r1 r2 =>
    cases r2
    cases r1 with
    | lst hx s =>
      have e := s.flat (flat_bls bs)
      rw [toV_bls] at e
      subst e
      exact ⟨_, bs, rfl, SqL.of (le _ _ hx), q _ G H (Ext.refl le) (.bl _)⟩
theorem opn_any {bs : List Bool} : Opn K (rAny K) [.lst (bs.map .bl)] (.bl (bs.any id)) := fun vs G H le rs Q q => by
  cases rs with
  | cons r1 r2 =>
    cases r2
    cases r1 with
    | lst hx s =>
      have e := s.flat (flat_bls bs)
      rw [toV_bls] at e
      subst e
      exact ⟨_, bs, rfl, SqL.of (le _ _ hx), q _ G H (Ext.refl le) (.bl _)⟩
theorem opn_sum {ns : List Int} : Opn K (rSum K) [.lst (ns.map .int)] (.int ns.sum) := fun vs G H le rs Q q => by
  cases rs with
  | cons r1 r2 =>
    cases r2
    cases r1 with
    | lst hx s =>
      have e := s.flat (flat_ints ns)
      rw [toV_ints] at e
      subst e
      exact ⟨_, ns, rfl, SqL.of (le _ _ hx), q _ G H (Ext.refl le) (.int _)⟩
theorem evd_maxD {ns : List Int} {k : Int} (h : Evd K ta δ (.lst (ns.map .int))) (hk : Evd K tb δ (.int k)) : Evd K (tCKw (rMaxD K) (tCons ta tNil) (tCons tb tNil)) δ (.int (maxI k ns)) := fun bp He bx σ G H le E Q q =>
  h bp He bx σ G H le E _ fun v G1 H1 x1 r1 => hk bp He bx σ G1 H1 x1.le (E.lift x1) _ fun w G2 H2 x2 r2 => by
    have r1 := r1.mono x2.gg
    cases r1 with
    | lst hx s =>
      have e := s.flat (flat_ints ns)
      rw [toV_ints] at e
      subst e
      exact ⟨_, ns, k, rfl, by rw [r2.intI], SqL.of (x2.le _ _ hx), q _ G2 H2 (x1.trans x2) (.int _)⟩
def rMax2 : List V → Hp → VK → Prop := fun xs H Q => ∃ i j, xs = [.int i, .int j] ∧ Q (.int (if j > i then j else i)) H
def rMin2 : List V → Hp → VK → Prop := fun xs H Q => ∃ i j, xs = [.int i, .int j] ∧ Q (.int (if j < i then j else i)) H
theorem cr_max2 {X : Cx} (hc : X.calm = true) : CallR X (.builtin "max") rMax2 := call_max2 hc
theorem cr_min2 {X : Cx} (hc : X.calm = true) : CallR X (.builtin "min") rMin2 := call_min2 hc
theorem opn_max2 {i j : Int} : Opn K rMax2 [.int i, .int j] (.int (if j > i then j else i)) := fun vs G H le rs Q q => by
  cases rs with
  | cons r1 r2 =>
    cases r2 with
    | cons r2 r3 =>
      cases r3
      rw [r1.intI, r2.intI]
      exact ⟨i, j, rfl, q _ G H (Ext.refl le) (.int _)⟩
theorem opn_min2 {i j : Int} : Opn K rMin2 [.int i, .int j] (.int (if j < i then j else i)) := fun vs G H le rs Q q => by
  cases rs with
  | cons r1 r2 =>
    cases r2 with
    | cons r2 r3 =>
      cases r3
      rw [r1.intI, r2.intI]
      exact ⟨i, j, rfl, q _ G H (Ext.refl le) (.int _)⟩
def rInt1 : List V → Hp → VK → Prop := fun xs H Q => (∃ i, xs = [.int i] ∧ Q (.int i) H) ∨ ∃ k, xs = [.bl k] ∧ Q (.int (if k then 1 else 0)) H
theorem call_intR {X : Cx} : CallR X (.type "int") rInt1 := call_int1
theorem opn_intB {b : Bool} : Opn K rInt1 [.bl b] (.int (if b then 1 else 0)) := fun vs G H le rs Q q => by
  cases rs with
  | cons r1 r2 =>
    cases r2
    rw [r1.blI]
    exact .inr ⟨b, rfl, q _ G H (Ext.refl le) (.int _)⟩
/-- list(x), tuple(x) -/
def rListOf (K : PySem.W.Frag) : List V → Hp → VK → Prop := fun xs H Q => ∃ p ys, xs = [.ref p] ∧ (SqL K H p ys ∨ SqT K H p ys) ∧ ∀ l, H l = none → Q (.ref l) (upd H l (.lst ys))
theorem call_listOf {X : Cx} : CallR X (.type "list") (rListOf X.K) := call_list_of
theorem opno_listL : OpnO K (rListOf K) [.lst ds] ds := fun vs G H le rs Q q => by
  cases rs with
  | cons r1 r2 =>
    cases r2
    cases r1 with
    | lst hx s => exact ⟨_, _, rfl, .inl (SqL.of (le _ _ hx)), fun p hp => q p _ G _ (Ext.own le hp) hp (le.free hp) upd_same s⟩
theorem opno_listT : OpnO K (rListOf K) [.tup ds] ds := fun vs G H le rs Q q => by
  cases rs with
  | cons r1 r2 =>
    cases r2
    cases r1 with
    | tup hx s => exact ⟨_, _, rfl, .inr (sqT_same le hx), fun p hp => q p _ G _ (Ext.own le hp) hp (le.free hp) upd_same s⟩
def rTupOf (K : PySem.W.Frag) : List V → Hp → VK → Prop := fun xs H Q => ∃ p ys, xs = [.ref p] ∧ ((SqL K H p ys ∧ ∀ l, H l = none → Q (.ref l) (upd H l (.tup ys))) ∨ (SqT K H p ys ∧ Q (.ref p) H))
theorem call_tupOf {X : Cx} : CallR X (.type "tuple") (rTupOf X.K) := call_tuple_of
theorem opn_tupL : Opn K (rTupOf K) [.lst ds] (.tup ds) := fun vs G H le rs Q q => by
  cases rs with
  | cons r1 r2 =>
    cases r2
    cases r1 with
    | lst hx s => exact ⟨_, _, rfl, .inl ⟨SqL.of (le _ _ hx), fun p hp => q (.ref p) _ _ (Ext.new le hp) (.tup (SqT.of upd_same) (s.mono (same_known (le.free hp))))⟩⟩

/-! ### dicts, fields -/
def lookD (kds : List (Key × Da)) (k : Key) : Option Da := (kds.find? fun kv => decide (kv.1 = k)).map (·.2)
theorem RepK.look {G : Hp} : ∀ {kvs : List (Key × V)} {kds : List (Key × Da)} (k : Key), RepK K G kvs kds → (valV kvs k = none ∧ lookD kds k = none) ∨ ∃ v d, valV kvs k = some v ∧ lookD kds k = some d ∧ Rep K G v d
  | _, _, k, .nil => .inl ⟨rfl, rfl⟩
  | _, _, k, .cons (k := k0) h r => by
    by_cases e : k0 = k
    · subst e
      exact .inr ⟨_, _, valV_pos rfl, by unfold lookD; rw [List.find?_cons, decide_eq_true rfl]; rfl, h⟩
    · rcases r.look k with ⟨a, b⟩ | ⟨v, d, a, b, c⟩
      · refine .inl ⟨(valV_neg e).trans a, ?_⟩
        unfold lookD at b ⊢
        rw [List.find?_cons, decide_eq_false e]
        exact b
      · refine .inr ⟨v, d, (valV_neg e).trans a, ?_, c⟩
        unfold lookD at b ⊢
        rw [List.find?_cons, decide_eq_false e]
        exact b
theorem Rep.key {G : Hp} {v : V} {k : Key} (h : Rep K G v (keyD k)) : v = kV k := by cases k <;> cases h <;> rfl
theorem evd_dget {kds : List (Key × Da)} {k : Key} (h : Evd K ta δ (.dic kds)) (hk : Evd K tb δ (keyD k)) (e : lookD kds k = some d) : Evd K (tDGet ta tb) δ d := fun bp He bx σ G H le E Q q =>
  h bp He bx σ G H le E _ fun v G1 H1 x1 r1 => hk bp He bx σ G1 H1 x1.le (E.lift x1) _ fun w G2 H2 x2 r2 => by
    have r1 := r1.mono x2.gg
    cases r1 with
    | @dic a o kvs _ hx rs =>
      rcases rs.look k with ⟨_, b⟩ | ⟨v, d', a1, b, c⟩
      · rw [b] at e; cases e
      · rw [b] at e
        cases e
        exact ⟨a, v, rfl, .inl ⟨kvs, k, .inr ⟨o, x2.le _ _ hx⟩, r2.key, a1.symm⟩, q v G2 H2 (x1.trans x2) c⟩
theorem evd_din {kds : List (Key × Da)} {k : Key} (hk : Evd K tb δ (keyD k)) (h : Evd K ta δ (.dic kds)) : Evd K (tDIn tb ta) δ (.bl (lookD kds k).isSome) := fun bp He bx σ G H le E Q q =>
  hk bp He bx σ G H le E _ fun w G1 H1 x1 r2 => h bp He bx σ G1 H1 x1.le (E.lift x1) _ fun v G2 H2 x2 r1 => by
    cases r1 with
    | @dic a o kvs _ hx rs =>
      refine ⟨a, valV kvs k, rfl, .inl ⟨kvs, k, .inr ⟨o, x2.le _ _ hx⟩, r2.key, rfl⟩, ?_⟩
      rcases rs.look k with ⟨a1, b⟩ | ⟨v, d', a1, b, c⟩
      · rw [a1]; rw [b] at q; exact q _ G2 H2 (x1.trans x2) (.bl _)
      · rw [a1]; rw [b] at q; exact q _ G2 H2 (x1.trans x2) (.bl _)
def rowsD (cs : List (Str × Str)) : List (Key × Da) := cs.map fun c => ((Sum.inr c.1 : Key), Da.str c.2)
theorem repK_rows {G : Hp} : ∀ cs : List (Str × Str), RepK K G (rowsOf cs) (rowsD cs)
  | [] => .nil
  | c :: cs => .cons (.str c.2) (repK_rows cs)
theorem evd_rows {cs : List (Str × Str)} (hc : Cls K (PC K)) (hn : NoAttr K (PC K) "pack_rows") (h : Evd K ta δ (.pck cs)) : Evd K (tFld K ta "pack_rows") δ (.dic (rowsD cs)) := fun bp He bx σ G H le E Q q =>
  h bp He bx σ G H le E _ fun v G1 H1 x1 r1 => by
    cases r1 with
    | pck h1 h2 h3 => exact ⟨_, _, _, _, _, rfl, x1.le _ _ h1, hc, hn, rfl, q _ G1 H1 x1 (.dic h3 (repK_rows cs))⟩
/-- the cards as data -/
def cardD (c : Str × Str) : Da := .tup [.str c.1, .str c.2]
def cardsD (cs : List (Str × Str)) : List Da := cs.map cardD
theorem kvD_reps : ∀ {ts : List Addr} {kvs : List (Key × V)} {kds : List (Key × Da)} {G' : Hp}, Paired (fun (t : Addr) (q : Key × V) => G' t = some (.tup [kV q.1, q.2])) ts kvs → RepK K G' kvs kds →
    Reps K G' (ts.map V.ref) (kds.map fun k => .tup [keyD k.1, k.2])
  | _, _, _, _, .nil, .nil => .nil
  | _, _, _, _, .cons h r, .cons h2 r2 => .cons (.tup (SqT.of h) (.cons (rep_key _) (.cons h2 .nil))) (kvD_reps r r2)
theorem evo_items {kds : List (Key × Da)} (h : Evd K ta δ (.dic kds)) : EvO K (tItemsF ta) δ (kds.map fun k => .tup [keyD k.1, k.2]) := fun bp He bx σ G H le E Q q =>
  h bp He bx σ G H le E _ fun v G1 H1 x1 r1 => by
    cases r1 with
    | @dic a o kvs _ hx rs =>
      refine ⟨a, o, kvs, rfl, x1.le _ _ hx, fun H' p ts s n1 n2 n3 n4 n5 => ?_⟩
      -- the tuples become known
      let G' : Hp := fun b => if b ∈ ts then H' b else G1 b
      have gt : ∀ b ∈ ts, G' b = H' b := fun b hb => if_pos hb
      have gn : ∀ b, b ∉ ts → G' b = G1 b := fun b hb => if_neg hb
      have g1n : ∀ b ∈ ts, G1 b = none := fun b hb => x1.le.free (n2 b hb)
      have x2 : Ext none G1 H1 G' H' := by
        refine ⟨fun b u e => ?_, fun b u _ e => s b u e, fun b e => ?_, fun b e => gn b fun z => e (n2 b z), fun b u e => ?_⟩
        · have : b ∉ ts := fun z => by rw [g1n b z] at e; cases e
          rw [gn b this]; exact e
        · cases e2 : H1 b with
          | none => exact absurd e2 e
          | some u => rw [s b u e2]; exact fun z => nomatch z
        · by_cases hb : b ∈ ts
          · rw [gt b hb] at e; exact e
          · rw [gn b hb] at e; exact s b u (x1.le b u e)
      have pr : Paired (fun (t : Addr) (q : Key × V) => G' t = some (.tup [kV q.1, q.2])) ts kvs := by
        have aux : ∀ {as : List Addr} {ks : List (Key × V)}, (∀ b ∈ as, b ∈ ts) → Paired (fun (t : Addr) (q : Key × V) => H' t = some (.tup [kV q.1, q.2])) as ks → Paired (fun (t : Addr) (q : Key × V) => G' t = some (.tup [kV q.1, q.2])) as ks := by
          intro as ks hs hp
          induction hp with
          | nil => exact .nil
          | cons h r ih => exact .cons (by rw [gt _ (hs _ List.mem_cons_self)]; exact h) (ih fun b hb => hs b (List.mem_cons_of_mem _ hb))
        exact aux (fun _ h => h) n5
      exact q p _ G' H' (x1.trans x2) (x1.free n1) (by rw [gn p n3]; exact x1.le.free n1) n4 (kvD_reps pr (rs.mono x2.gg))
/-- a method of a pack -/
theorem evd_meth {m : Str} {P : List Da → Da → Prop} {E0 : XK} {tar : TA} {cs : List (Str × Str)} (ho : Evd K to δ (.pck cs)) (ha : EvdA K tar δ ds) (hm : m ≠ "pack_rows") (p : P (.pck cs :: ds) d) : Evd K (tMeth (PC K) m (PuSp K P) [] E0 to tar) δ d := fun bp He bx σ G H le E Q q =>
  ho bp He bx σ G H le E _ fun v G1 H1 x1 r1 => by
    have r1' := r1
    cases r1' with
    | @pck a dx dd o _ h1 h2 h3 =>
      refine ⟨a, dx, _, rfl, x1.le _ _ h1, ?_, ha bp He bx σ G1 H1 x1.le (E.lift x1) _ fun vs G2 H2 x2 r2 => ⟨G2, .pck cs :: ds, d, x2.le, ?_, p, fun v G3 H3 x3 r3 => q v G3 H3 ((x1.trans x2).trans x3) r3⟩⟩
      · show List.lookup m [(("pack_rows" : Str), V.ref dd)] = none
        have e : (m == ("pack_rows" : Str)) = false := beq_eq_false_iff_ne.mpr hm
        simp only [List.lookup, e]
      · rw [List.append_nil]
        exact .cons (r1.mono x2.gg) r2
/-- len(pack) -/
theorem evd_lenOwn {P : List Da → Da → Prop} {cs : List (Str × Str)} {n : Nat} (ho : Evd K to δ (.pck cs)) (p : P [.pck cs] (.int n)) (hn : n < 2 ^ 63) : Evd K (tLenOwn K (PC K) (PuSp K P) to) δ (.int n) := fun bp He bx σ G H le E Q q =>
  ho bp He bx σ G H le E _ fun v G1 H1 x1 r1 => by
    have r1' := r1
    cases r1' with
    | @pck a dx dd o _ h1 h2 h3 =>
      exact ⟨a, dx, _, rfl, x1.le _ _ h1, G1, [.pck cs], .int n, x1.le, .cons r1 .nil, p, fun v G2 H2 x2 r2 => ⟨n, r2.intI, by omega, by omega, q _ G2 H2 (x1.trans x2) (.int _)⟩⟩
end
end R
set_option maxHeartbeats 4123456
/-! R8: isinstance, ==, built-in names. -/
namespace R
open PySem L2
section
variable {K : PySem.W.Frag} {δ δ1 : List En} {ta tb tc te tx tl to : TE} {t u : TT} {d d0 d1 d2 d3 : Da} {ds es : List Da} {r r' : R2}
def tyD : Da → String
  | .non => "NoneType" | .bl _ => "bool" | .int _ => "int" | .str _ => "str" | .lst _ => "list" | .tup _ => "tuple" | .dic _ => "dict" | .scr _ => "list" | .pck _ => "Pack"
/-- an instance of the class x: what the head tells -/
structure Own (K : PySem.W.Frag) (C : Addr) : Prop where
  cl : Cls K C
  ha : PySem.W.findIn K (.ref C) "__class__" = some (some (.builtin "object.__class__"))
  hn : PySem.W.specialIn K (.builtin "object.__class__") "__get__" = some (some (.builtin "getset_descriptor.__get__"))
  htk : PySem.W.takesIn K (.builtin "object.__class__") = some true
  hm : PySem.W.mroIn K C (.type "object") = some true
  self : PySem.W.kitOne K (.ref C) (.ref C) = some true
theorem tyx_of {G H : Hp} {v : V} (le : Same G H) (h : Rep K G v d) (hp : ∀ cs, d ≠ .pck cs) : TyX K H v (.type (tyD d)) := by
  cases h with
  | non => exact .base .non
  | bl b => exact .base (.bl b)
  | int i => exact .base (.int i)
  | str x => exact .base (.str x)
  | lst h _ => exact .base (.lst (le _ _ h))
  | tup h _ =>
    rcases h with (h | ⟨o, h⟩) | ⟨o, its, n, h1, h2, _⟩
    · exact .base (.tup (le _ _ h))
    · exact .fTuple (le _ _ h)
    · exact .kTuple h1 h2
  | dic h _ => exact .fDict (le _ _ h)
  | pck h1 h2 h3 => exact absurd rfl (hp _)
  | scr h =>
    rcases h with (h | ⟨o, h⟩) | ⟨o, its, n, h1, h2, _⟩
    · exact .base (.lst (le _ _ h))
    · exact .base (.frz (le _ _ h))
    · exact .kList h1 h2
theorem evd_isi {n : String} {b : Bool} (h : Evd K tx δ d) (e : kitB (tyD d) n = some b) (hp : ∀ cs, d ≠ .pck cs) : Evd K (tCB (rIsi K) (tCons tx (tCons (tC (.ty n)) tNil))) δ (.bl b) := fun bp He bx σ G H le E Q q =>
  h bp He bx σ G H le E _ fun v G1 H1 x1 r1 => ⟨v, .ty n, _, _, b, rfl, .ty n, tyx_of x1.le r1 hp, kit_ty e, q _ G1 H1 x1 (.bl b)⟩
theorem evd_isiPack {cs : List (Str × Str)} (o : Own K (PC K)) (h : Evd K tx δ (.pck cs)) : Evd K (tCB (rIsi K) (tCons tx (tCons (tC (.ref (PC K))) tNil))) δ (.bl true) := fun bp He bx σ G H le E Q q =>
  h bp He bx σ G H le E _ fun v G1 H1 x1 r1 => by
    have r1' := r1
    cases r1' with
    | @pck a dx dd ob _ h1 h2 h3 => exact ⟨.ref a, .ref (PC K), .ref (PC K), .ref (PC K), true, rfl, .own _, .base (.ins (x1.le _ _ h1) o.cl o.ha o.hn o.htk o.hm), o.self, q _ G1 H1 x1 (.bl true)⟩
def isiAny (d : Da) : List String → Option Bool
  | [] => some false
  | n :: ns => match kitB (tyD d) n with
    | some true => some true
    | some false => isiAny d ns
    | none => none
theorem kitAny_of {d : Da} : ∀ {ns : List String} {b : Bool}, isiAny d ns = some b → PySem.W.kitAny K (.type (tyD d)) (ns.map Value.type) = some b
  | [], b, e => by cases e; exact kitAny_nil
  | n :: ns, b, e => by
    unfold isiAny at e
    cases q : kitB (tyD d) n with
    | none => rw [q] at e; cases e
    | some c =>
      rw [q] at e
      rw [List.map_cons]
      cases c with
      | true => cases e; exact kitAny_cons (kit_ty q) (fun z => nomatch z) (fun _ => rfl)
      | false => exact kitAny_cons (kit_ty q) (fun _ => kitAny_of e) (fun z => nomatch z)
theorem clsv_map : ∀ ns : List String, Paired ClsV (ns.map V.ty) (ns.map Value.type)
  | [] => .nil
  | n :: ns => .cons (.ty n) (clsv_map ns)
/-- isinstance(x, (list, tuple)) -/
theorem evd_isiT2 {m n : String} {b : Bool} (h : Evd K tx δ d) (e : isiAny d [m, n] = some b) (hp : ∀ cs, d ≠ .pck cs) : Evd K (tCB (rIsiT K) (tCons tx (tCons (tTup (tCons (tC (.ty m)) (tCons (tC (.ty n)) tNil))) tNil))) δ (.bl b) := fun bp He bx σ G H le E Q q =>
  h bp He bx σ G H le E _ fun v G1 H1 x1 r1 => ⟨len_line (by show 2 ≤ 100000; omega), fun p hp' => by
    have x2 : Ext none G1 H1 (upd G1 p (.tup [.ty m, .ty n])) (upd H1 p (.tup [.ty m, .ty n])) := Ext.new x1.le hp'
    exact ⟨v, p, [.ty m, .ty n], _, _, b, rfl, upd_same, clsv_map [m, n], tyx_of x2.le (r1.mono x2.gg) hp, kitAny_of e, q _ _ _ (x1.trans x2) (.bl b)⟩⟩
theorem evd_isi_ {n : String} (b : Bool) (h : Evd K tx δ d) (e : kitB (tyD d) n = some b := by decide +kernel) (hp : ∀ cs, d ≠ .pck cs := by exact (fun _ z => nomatch z)) : Evd K (tCB (rIsi K) (tCons tx (tCons (tC (.ty n)) tNil))) δ (.bl b) := evd_isi h e hp

/-! ### == of data at any depth -/
mutual
def toPy : Da → PyData
  | .non => .none | .bl b => .bool b | .int i => .int i | .str x => .str x
  | .lst ds => .list (toPys ds) | .tup ds => .tuple (toPys ds)
  | .dic _ => .none | .pck _ => .none | .scr ns => .list (ns.map .int)
def toPys : List Da → List PyData
  | [] => []
  | d :: ds => toPy d :: toPys ds
end
mutual
/-- no dict, no pack; texts of signs that there are -/
def pln : Da → Bool
  | .non => true | .bl _ => true | .int _ => true | .str x => PyData.strOk x
  | .lst ds => plns ds | .tup ds => plns ds
  | .dic _ => false | .pck _ => false | .scr _ => false
def plns : List Da → Bool
  | [] => true
  | d :: ds => pln d && plns ds
end
mutual
def dep : Da → Nat
  | .lst ds => deps ds + 1 | .tup ds => deps ds + 1
  | .non => 0 | .bl _ => 0 | .int _ => 0 | .str _ => 0 | .dic _ => 0 | .pck _ => 0 | .scr _ => 0
def deps : List Da → Nat
  | [] => 0
  | d :: ds => max (dep d) (deps ds)
end
mutual
theorem dp_of {G H : Hp} (le : Same G H) : ∀ {v : V} {d : Da}, Rep K G v d → pln d = true → Dp K H v (toPy d)
  | _, _, .non, _ => .non
  | _, _, .bl b, _ => .bl b
  | _, _, .int i, _ => .int i
  | _, _, .str x, _ => .str x
  | _, _, .lst h r, p => .lst (SqL.of (le _ _ h)) (dps_of le r p)
  | _, _, .tup h r, p => .tup (sqT_same le h) (dps_of le r p)
  | _, _, .dic h r, p => by cases p
  | _, _, .pck _ _ _, p => by cases p
  | _, _, .scr _, p => by cases p
theorem dps_of {G H : Hp} (le : Same G H) : ∀ {vs : List V} {ds : List Da}, Reps K G vs ds → plns ds = true → DpAll K H vs (toPys ds)
  | _, _, .nil, _ => .nil
  | _, _, .cons h r, p => .cons (dp_of le h (Bool.and_eq_true_iff.mp p).1) (dps_of le r (Bool.and_eq_true_iff.mp p).2)
end
mutual
theorem lay_of : ∀ d : Da, pln d = true → (toPy d).canLay0 = true
  | .non, _ => rfl
  | .bl b, _ => rfl
  | .int i, _ => rfl
  | .str x, h => h
  | .lst ds, h => lays_of ds h
  | .tup ds, h => lays_of ds h
  | .dic _, h => by cases h
  | .pck _, h => by cases h
  | .scr _, h => by cases h
theorem lays_of : ∀ ds : List Da, plns ds = true → PyData.canLayAll0 (toPys ds) = true
  | [], _ => rfl
  | d :: ds, h => by
    have h2 := Bool.and_eq_true_iff.mp h
    show (PyData.canLay0 (toPy d) && PyData.canLayAll0 (toPys ds)) = true
    rw [lay_of d h2.1, lays_of ds h2.2]; rfl
end
mutual
theorem dep_of : ∀ d : Da, pln d = true → (toPy d).depth = dep d
  | .non, _ => rfl
  | .bl b, _ => rfl
  | .int i, _ => rfl
  | .str x, h => rfl
  | .lst ds, h => congrArg (· + 1) (deps_of ds h)
  | .tup ds, h => congrArg (· + 1) (deps_of ds h)
  | .dic _, h => by cases h
  | .pck _, h => by cases h
  | .scr _, h => by cases h
theorem deps_of : ∀ ds : List Da, plns ds = true → PyData.depthAll (toPys ds) = deps ds
  | [], _ => rfl
  | d :: ds, h => by
    have h2 := Bool.and_eq_true_iff.mp h
    show max (PyData.depth (toPy d)) (PyData.depthAll (toPys ds)) = _
    rw [dep_of d h2.1, deps_of ds h2.2]; rfl
end
theorem shaped_of {d : Da} (h : pln d = true) (hd : dep d ≤ 64) : SeqAt.shaped (toPy d) = true := by
  unfold SeqAt.shaped
  rw [lay_of d h, dep_of d h, decide_eq_true hd]; rfl
theorem op2_eqD (h1 : pln d1 = true) (h2 : pln d2 = true) (l1 : dep d1 ≤ 64) (l2 : dep d2 ≤ 64) : Op2 K (rEqD K) d1 d2 (.bl (PyData.eqv (toPy d1) (toPy d2))) := fun v1 v2 G H le r1 r2 Q q =>
  ⟨_, _, dp_of le r1 h1, dp_of le r2 h2, shaped_of h1 l1, shaped_of h2 l2, q _ G H (Ext.refl le) (.bl _)⟩
theorem op2_neD (h1 : pln d1 = true) (h2 : pln d2 = true) (l1 : dep d1 ≤ 64) (l2 : dep d2 ≤ 64) : Op2 K (rNeD K) d1 d2 (.bl (!PyData.eqv (toPy d1) (toPy d2))) := fun v1 v2 G H le r1 r2 Q q =>
  ⟨_, _, dp_of le r1 h1, dp_of le r2 h2, shaped_of h1 l1, shaped_of h2 l2, q _ G H (Ext.refl le) (.bl _)⟩
theorem op2_eqSame (h : pln d = true) (l : dep d ≤ 64) : Op2 K (rEqD K) d d (.bl true) := by
  have e := op2_eqD (K := K) h h l l
  rwa [SeqAt.eqv_refl _ (lay_of d h)] at e
theorem op2_neSame (h : pln d = true) (l : dep d ≤ 64) : Op2 K (rNeD K) d d (.bl false) := by
  have e := op2_neD (K := K) h h l l
  rwa [SeqAt.eqv_refl _ (lay_of d h)] at e
/-- == [] -/
theorem op2_eqNil (h : plns ds = true) (l : deps ds ≤ 63) : Op2 K (rEqD K) (.lst ds) (.lst []) (.bl ds.isEmpty) := by
  have e := op2_eqD (K := K) (d1 := .lst ds) (d2 := .lst []) h rfl (by show deps ds + 1 ≤ 64; omega) (by decide)
  have z : PyData.eqv (toPy (.lst ds)) (toPy (.lst [])) = ds.isEmpty := by cases ds <;> rfl
  rwa [z] at e
end
/-! ### names of built-ins -/
theorem bt_isinstance : bootBuiltins "isinstance" = some (.builtin "isinstance") := by decide +kernel
theorem bt_all : bootBuiltins "all" = some (.builtin "all") := by decide +kernel
theorem bt_any : bootBuiltins "any" = some (.builtin "any") := by decide +kernel
theorem bt_max : bootBuiltins "max" = some (.builtin "max") := by decide +kernel
theorem bt_min : bootBuiltins "min" = some (.builtin "min") := by decide +kernel
theorem bt_sum : bootBuiltins "sum" = some (.builtin "sum") := by decide +kernel
theorem bt_len : bootBuiltins "len" = some (.builtin "len") := by decide +kernel
theorem bt_repr : bootBuiltins "repr" = some (.builtin "repr") := by decide +kernel
theorem bt_sorted : bootBuiltins "sorted" = some (.builtin "sorted") := by decide +kernel
theorem bt_int : bootBuiltins "int" = some (.type "int") := by decide +kernel
theorem bt_bool : bootBuiltins "bool" = some (.type "bool") := by decide +kernel
theorem bt_str : bootBuiltins "str" = some (.type "str") := by decide +kernel
theorem bt_list : bootBuiltins "list" = some (.type "list") := by decide +kernel
theorem bt_tuple : bootBuiltins "tuple" = some (.type "tuple") := by decide +kernel
theorem bt_dict : bootBuiltins "dict" = some (.type "dict") := by decide +kernel
theorem bt_set : bootBuiltins "set" = some (.type "set") := by decide +kernel
end R
set_option maxHeartbeats 4123456
/-! R9: lists or tuples walked, len of a dict, repr (it wants to know that no repr is under way), the law's end with that. -/
namespace R
open PySem PySem.Spec PyProof.Rows L2
/-- a list or a tuple -/
def iSeq (K : PySem.W.Frag) (tl : TE) : TI := fun σ H R => iList K tl σ H R ∨ iTup K tl σ H R
theorem pi_seq {X : Cx} {tg l : Expr} {tl : TE} (h : PE X l tl) : PI X tg l (iSeq X.K tl) := ⟨fun pins s σ H R I q => by
  rcases q with q | q
  · exact (pi_list h).run pins s σ H R I q
  · exact (pi_tup h).run pins s σ H R I q⟩
/-- data as a list, as a tuple -/
def seqD (b : Bool) (ds : List Da) : Da := if b then .lst ds else .tup ds
theorem src_seq {K : PySem.W.Frag} {δ : List En} {tl : TE} {b : Bool} {ds : List Da} (h : Evd K tl δ (seqD b ds)) : Srcd K (iSeq K tl) δ ds := fun bp He bx σ G H le E R q => by
  cases b with
  | true => exact .inl (src_list h bp He bx σ G H le E R q)
  | false => exact .inr (src_tup h bp He bx σ G H le E R q)
theorem src_seqL {K : PySem.W.Frag} {δ : List En} {tl : TE} {ds : List Da} (h : Evd K tl δ (.lst ds)) : Srcd K (iSeq K tl) δ ds := src_seq (b := true) h
/-- len of a dict that is locked -/
def rLenF : List V → Hp → VK → Prop := fun xs H Q => ∃ d o kvs, xs = [.ref d] ∧ H d = some (.frz o (.dK kvs)) ∧ Q (.int kvs.length) H
theorem call_lenF {X : Cx} : CallR X (.builtin "len") rLenF := by
  intro pins s σ H xs us Q I r h
  obtain ⟨a, o, kvs, rfl, hd, q⟩ := h
  obtain rfl := Vals.ref1 r
  obtain ⟨hS, _, _, _, _, vs, _, _, kv, hat⟩ := I.frzK hd
  obtain ⟨_, hz, _⟩ := I.hok a _ hd
  have lk : kvs.length = vs.length := Paired.length kv
  have hs : sizeLine = 16777216 := sizeLine_eq
  exact call_len_dict hS hat.dictOf (by omega) ⟨.int kvs.length, H, I.tok _, ⟨_, by rw [lk]⟩, q⟩
section
variable {K : PySem.W.Frag} {δ : List En} {ta : TE} {d : Da} {ds : List Da} {kds : List (Key × Da)}
theorem evd_lenF (h : Evd K ta δ (.dic kds)) : Evd K (tCB rLenF (tCons ta tNil)) δ (.int kds.length) := fun bp He bx σ G H le E Q q =>
  h bp He bx σ G H le E _ fun v G1 H1 x1 r1 => by
    cases r1 with
    | dic hx rs => exact ⟨_, _, _, rfl, x1.le _ _ hx, by rw [rs.len]; exact q _ G1 H1 x1 (.int _)⟩
end

/-! ### repr -/
def rRepr (K : PySem.W.Frag) : List V → Hp → VK → Prop := fun vs H Q => ∃ (x : V) (d : PyData), vs = [x] ∧ Dp K H x d ∧ d.showable = true ∧ d.hasDict = false ∧ d.depth ≤ 40 ∧ d.shown.length ≤ 16777216 ∧ Q (.str d.shown) H
theorem call_reprD {X : Cx} (hg : X.A.guards = some []) (hu : X.A.units + 64 < cLine) : CallR X (.builtin "repr") (rRepr X.K) := by
  intro pins s σ H xs us Q I r h
  obtain ⟨x, d, rfl, hd, h1, h2, h3, h4, q⟩ := h
  have h4 : d.shown.length ≤ sizeLine := by rw [sizeLine_eq]; exact h4
  obtain ⟨u, rfl, rx⟩ := vals1 r
  obtain ⟨as, rd⟩ := Dp.reads I d x u hd rx
  cases rd with
  | none => exact PySem.P.repr_of_none ⟨.str _, H, I.tok _, ⟨_, rfl⟩, q⟩
  | bool b => exact PySem.P.repr_of_bool ⟨.str _, H, I.tok _, ⟨_, rfl⟩, q⟩
  | int i t => exact PySem.P.repr_of_int (of_decide_eq_true h1) ⟨.str _, H, I.tok _, ⟨_, rfl⟩, q⟩
  | str y t => exact PySem.P.repr_of_str ⟨.str _, H, I.tok _, ⟨_, rfl⟩, q⟩ h4
  | @list a o vs n ys as' e1 e2 e3 e4 =>
    exact repr_of_reads' (h₀ := s.heap) (.list e1 e2 e3 e4) h1 (PyData.noDict_hsm h2) hg (by omega) (fun _ _ e => e) (fun h' u tk k => ⟨.str _, H, I.kept k, ⟨_, rfl⟩, q⟩) h4
  | @tuple a o vs n ys as' e1 e2 e3 e4 =>
    exact repr_of_reads' (h₀ := s.heap) (.tuple e1 e2 e3 e4) h1 (PyData.noDict_hsm h2) hg (by omega) (fun _ _ e => e) (fun h' u tk k => ⟨.str _, H, I.kept k, ⟨_, rfl⟩, q⟩) h4
  | dict e1 e2 e3 e4 e5 => cases h2
mutual
/-- how long a datum's repr is at most -/
def cost : Da → Nat
  | .non => 4 | .bl _ => 5 | .int i => (PyData.shown (.int i)).length | .str x => 10 * x.length + 2
  | .lst ds => costs ds + 3 | .tup ds => costs ds + 3
  | .dic _ => 0 | .pck _ => 0 | .scr _ => 0
def costs : List Da → Nat
  | [] => 0
  | d :: ds => cost d + 2 + costs ds
end
mutual
/-- ints of usual size -/
def shw : Da → Bool
  | .int i => decide (i.natAbs.log2 < 1920)
  | .lst ds => shws ds | .tup ds => shws ds
  | .non => true | .bl _ => true | .str _ => true | .dic _ => false | .pck _ => false | .scr _ => false
def shws : List Da → Bool
  | [] => true
  | d :: ds => shw d && shws ds
end
theorem shown_sum : ∀ ds : List Da, ((PyData.shownAll (toPys ds)).map (·.length)).sum + 2 * (PyData.shownAll (toPys ds)).length ≤ costs ds → (listText (PyData.shownAll (toPys ds))).length ≤ costs ds + 3 ∧ (tupleText (PyData.shownAll (toPys ds))).length ≤ costs ds + 3 := fun ds h =>
  ⟨Nat.le_trans (listText_len_le _) (by omega), Nat.le_trans (tupleText_len_le _) (by omega)⟩
mutual
theorem shown_le : ∀ d : Da, pln d = true → (toPy d).shown.length ≤ cost d
  | .non, _ => by decide
  | .bl true, _ => by decide
  | .bl false, _ => by decide
  | .int i, _ => by
    have e : cost (.int i) = (PyData.shown (.int i)).length := by rw [cost]
    rw [e]
    exact Nat.le_refl _
  | .str x, h => by
    simp only [toPy, PyData.shown, cost]
    refine StrLaws.reprText_len x fun c hc => ?_
    have h2 : x.cps.all (· < 0x110000) = true := h
    have h3 := Array.all_eq_true'.mp h2 c (Array.mem_toList_iff.mp hc)
    have h4 := of_decide_eq_true h3
    omega
  | .lst ds, h => by
    simp only [toPy, PyData.shown, cost]
    exact (shown_sum ds (showns_le ds h)).1
  | .tup ds, h => by
    simp only [toPy, PyData.shown, cost]
    exact (shown_sum ds (showns_le ds h)).2
  | .dic _, h => by cases h
  | .pck _, h => by cases h
  | .scr _, h => by cases h
theorem showns_le : ∀ ds : List Da, plns ds = true → ((PyData.shownAll (toPys ds)).map (·.length)).sum + 2 * (PyData.shownAll (toPys ds)).length ≤ costs ds
  | [], _ => Nat.le_refl _
  | d :: ds, h => by
    have h2 := Bool.and_eq_true_iff.mp h
    have a := shown_le d h2.1
    have b := showns_le ds h2.2
    simp only [toPys, PyData.shownAll, List.map_cons, List.sum_cons, List.length_cons, costs]
    omega
end
mutual
theorem showable_of : ∀ d : Da, shw d = true → (toPy d).showable = true ∧ (toPy d).hasDict = false
  | .non, _ => ⟨rfl, rfl⟩
  | .bl b, _ => ⟨rfl, rfl⟩
  | .int i, h => ⟨h, rfl⟩
  | .str x, h => ⟨rfl, rfl⟩
  | .lst ds, h => showables_of ds h
  | .tup ds, h => showables_of ds h
  | .dic _, h => by cases h
  | .pck _, h => by cases h
  | .scr _, h => by cases h
theorem showables_of : ∀ ds : List Da, shws ds = true → PyData.showableAll (toPys ds) = true ∧ PyData.hasDictAll (toPys ds) = false
  | [], _ => ⟨rfl, rfl⟩
  | d :: ds, h => by
    have h2 := Bool.and_eq_true_iff.mp h
    have a := showable_of d h2.1
    have b := showables_of ds h2.2
    refine ⟨?_, ?_⟩
    · show (PyData.showable (toPy d) && PyData.showableAll (toPys ds)) = true
      rw [a.1, b.1]; rfl
    · show (PyData.hasDict (toPy d) || PyData.hasDictAll (toPys ds)) = false
      rw [a.2, b.2]; rfl
end
/-- data whose repr is short -/
structure Rpr (d : Da) : Prop where
  p : pln d = true
  s : shw d = true
  l : dep d ≤ 40
  c : cost d ≤ 16777216
theorem opn_repr {K : PySem.W.Frag} {d : Da} (h : Rpr d) : Opn K (rRepr K) [d] (.str (toPy d).shown) := fun vs G H le rs Q q => by
  cases rs with
  | cons r1 r2 =>
    cases r2
    exact ⟨_, _, rfl, dp_of le r1 h.p, (showable_of d h.s).1, (showable_of d h.s).2, by rw [dep_of d h.p]; exact h.l, Nat.le_trans (shown_le d h.p) h.c, q _ G H (Ext.refl le) (.str _)⟩
theorem Rpr.shaped {d : Da} (h : Rpr d) : dep d ≤ 64 := Nat.le_trans h.l (by decide)

/-! ### a def that may ask for repr: no repr is under way -/
structure FnOkG (P : Program) (w : World) (K : PySem.W.Frag) (mg : Str → Option Value) (base : Heap) (CX : CXT) (k : Nat) (f : Addr) (fd : FuncData) (ps : List Str) (sp : Sp) : Prop where
  len : ∀ vs H Q E, sp vs H Q E → vs.length = ps.length
  run : ∀ (A : Around) (outer : List Env) (s : Shared) (H : Hp) (args : Args) (us : List Value) (vs : List V) (Q : VK) (E : XK), A.guards = some [] → Room k A → Env0 P w K mg base A outer s H →
    BindsTo s fd args (ps.zip us) → Vals vs us → sp vs H Q E → codeAny (model P w) A (.call (.ref f) args) (CR CX outer P w H s Q E) s
/-- .. from what a def promises around any stack -/
theorem FnOk.g {P : Program} {w : World} {K : PySem.W.Frag} {mg : Str → Option Value} {base : Heap} {CX : CXT} {k : Nat} {f : Addr} {fd : FuncData} {ps : List Str} {sp : Sp} (F : FnOk P w K mg base CX k f fd ps sp) : FnOkG P w K mg base CX k f fd ps sp :=
  ⟨F.len, fun A outer s H args us vs Q E _ hr he hb hv hs => F.run A outer s H args us vs Q E hr he hb hv hs⟩
section
variable {P : Program} {w : World} {K : PySem.W.Frag} {mg : Str → Option Value} {base : Heap} {x qual : Str} {params : Arguments} {body : List Stmt} {scope : Scope} {dvs : List V} {kws : List (Str × V)} {f : Addr} {fd : FuncData}
theorem FunD.okG {CX : CXT} {N ps : List Str} {k : Nat} {sp : Sp} (F : FunD K x qual params body scope dvs kws f fd) (S : FnScope N ps scope) (len : ∀ vs H Q E, sp vs H Q E → vs.length = ps.length)
    (hbody : ∀ (cdv : Value) (A : Around) (outer : List Env) (s : Shared) (H : Hp) (vs : List V) (Q : VK) (E : XK), A.guards = some [] → Room k (A.deeper (envOfC qual scope s.heap.objs.size f cdv)) → sp vs H Q E →
      ∃ t, PSs (cxOf CX P w K mg base N qual scope f cdv A outer s H E) body t ∧ t { nx := fun _ H' => Q .non H', rt := Q } (L2.start N vs) H) : FnOkG P w K mg base CX (k + 1) f fd ps sp := by
  obtain ⟨oc, od, dV, kV, doc, pm, an, cdv, ct, osl, rfl, lk, hcd, _, _⟩ := F.ex
  refine ⟨len, fun A outer s H args us vs Q E hgd hr e0 hb rv hs => ?_⟩
  have keep : ∀ b o, base.get? b = some o → s.heap.get? b = some o := fun b o e => (e0.bs b o e).1
  have KX : K.In s.heap := e0.mod.kin.keeps keep
  have kinds : ∀ y ∈ ps.zip us, scope.names.lookup y.1 = some .local ∨
      (scope.names.lookup y.1 = some .cell ∧ ((cellsFrom (s.heap.objs.size + 1) scope.names []).lookup y.1).isSome = true) := by
    rintro ⟨n, v⟩ hy
    rcases S.par n (List.of_mem_zip hy).1 with q | q
    · exact .inl q
    · exact .inr ⟨q, PySem.W.cellsFrom_some _ _ _ (.inl q)⟩
  refine codeAny_call_function hr.depth (KX _ _ lk) rfl S.co S.gen rfl
    (PySem.W.codeRec_of KX hcd) (hb _ _ _ _ (wpAny_newFunctionEnv_cells S.kind kinds fun env he s1 x => ?_))
  subst he
  refine ⟨(e0.mod.nolimit.keeps keep).keeps x.toInCall.keep, codeAny_func ?_⟩
  obtain ⟨t, ht, hq⟩ := hbody cdv A outer s H vs Q E hgd (hr.deeper _) hs
  have I0 := inv_start (CX := CX) (qual := qual) (f := f) (cd := cdv) (E := E) S hr.hd e0 (len _ _ _ _ hs) rv x
  refine wpAny_mono (ht.run [] s1 (L2.start N vs) H _ I0 hq) (fun fl s' hs => ?_) fun _ _ z => z
  cases fl with
  | ret u =>
    obtain ⟨v, σ', H', J, rv', q⟩ := hs
    exact ⟨v, H', J.os, J.bare, J.base, J.hok, rv', q⟩
  | next =>
    obtain ⟨σ', H', J, q⟩ := hs
    exact ⟨V.non, H', J.os, J.bare, J.base, J.hok, (rfl : RelV V.non Value.none), q⟩
  | brk =>
    obtain ⟨_, _, _, q⟩ := hs
    exact False.elim q
  | cont =>
    obtain ⟨_, _, _, q⟩ := hs
    exact False.elim q
end
section
variable {X : Cx} {CX : CXT} {k : Nat} {f : Addr} {fd : FuncData} {ps : List Str} {sp : Sp} {E : XK} {x : Str} {p pos : Pos} {e : Expr} {es : List Expr} {t : TA}
/-- f(e, ..) of such a def -/
theorem pe_callG (F : FnOkG X.prog X.w X.K X.mg X.base CX k f fd ps sp) (hgd : X.A.guards = some []) (hr : Room k X.A) (hg : Gl X x) (hm : X.mg x = some (.ref f)) (hk : PySem.W.keepIn X.K (.ref f) = true)
    (hb : Binds X.K fd ps []) (hx : Passes CX X E) (ha : PA X (e :: es) t) (hdb : (x == ("__debug__" : Str)) = false := by decide)
    (he : starEach (e :: es) X.env = (false, eval e X.env) :: starEach es X.env := by rfl) (hpl : (backTo pos (starEach es X.env)).any (·.1) = false := by rfl) :
    PE X (.Call (.Name x p) (e :: es) [] pos) (tCall sp [] E t) := by
  refine ⟨fun pins s σ H Q I h => wpAny_Call_Name_kw (ld_glob I hg hm ?_ hdb)⟩
  refine PySem.W.callWith_K (h₀ := X.base) I.ok.mod.kin hk (thn (ha.run pos pins s σ H _ I h) fun us s1 ⟨vs, H1, I1, r, q⟩ => ⟨I1.kIn, ?_⟩) he hpl
  have q : sp (vs ++ []) H1 Q E := q
  rw [List.append_nil] at q
  have hl : us.length = ps.length := by rw [← r.length]; exact F.len _ _ _ _ q
  have bd := hb s1 us I1.kIn (by rw [List.append_nil]; exact hl)
  rw [List.append_nil] at bd
  refine wpAny_call (codeAny_mono (F.run X.A X.stack s1 H1 ⟨us, []⟩ us vs Q E hgd hr I1.env0 bd r q) fun r s' hq => ?_)
  cases r with
  | error e => exact hx pins σ H1 s1 e s' I1 hq
  | ok fl => cases fl with
    | ret u => exact I1.after hq
    | _ => exact False.elim hq
end
/-- the law's end from such a promise (no repr is under way where the law is called) -/
theorem law_callG {P : Program} {w : World} {K : PySem.W.Frag} {mg mb : Str → Option Value} {CX : CXT} {k : Nat} {fa a : Addr} {fd : FuncData} {x : Str} {sp : Sp} {s₁ : Shared} {vs : List Value} {ns : List Int}
    (KX : K.In s₁.heap) (hns : s₁.heap.Ns mainGlobals mg) (hb : s₁.heap.Ns builtinsNs mb) (hbb : ∀ x : Str, x ≠ "__name__" → mb x = bootBuiltins x) (hlim : s₁.heap.NoLimit) (hg : s₁.gens = #[])
    (ha : s₁.heap.get? a = some { cls := .type "list", data := .seq vs.toArray }) (hi : IntsAre vs ns) (hl : ns.length ≤ sizeLine) (hr : Room k callerA)
    (F : ∀ base : Heap, K.In base → base.Ns mainGlobals mg → FnOkG P w K mg base CX k fa fd [x] sp) (hbind : ∀ (s : Shared) (u : Value), BindsTo s fd ⟨[u], []⟩ [(x, u)])
    (hsp : ∀ H : Hp, Only H → SqL K H a (ns.map V.int) → sp [.ref a] H (fun v _ => v = .bl true) fun _ _ _ => False)
    (hCX : ∀ H e s', CX [] H s₁ (fun _ _ _ => False) e s' → False) :
    codeAny (model P w) callerA (.call (.ref fa) ⟨[.ref a], []⟩) (fun r s' => r = .ok (.ret (.bool true)) ∧ OldK s₁.heap s'.heap ∧ s'.os = s₁.os ∧ AllBare s'.gens) s₁ := by
  have rv := vals_ints hi
  have lv : vs.length = ns.length := hi.length
  -- whatever is tracked is the script, beside the written part
  have go : ∀ H : Hp, Only H → SqL K H a (ns.map V.int) → HOk P w H s₁.heap → (∀ b u, H b = some u → b = a ∧ K.lookup a = none) →
      codeAny (model P w) callerA (.call (.ref fa) ⟨[.ref a], []⟩)
        (fun r s' => r = .ok (.ret (.bool true)) ∧ OldK s₁.heap s'.heap ∧ s'.os = s₁.os ∧ AllBare s'.gens) s₁ := by
    intro H only hS ok alone
    have dict_free : ∀ {b : Addr} {m : Str → Option Value}, s₁.heap.Ns b m → (hidT s₁.heap H).Ns b m := by
      rintro b m ⟨o, es, ep, e, d, rest⟩
      refine ⟨o, es, ep, hidT_get e ?_, d, rest⟩
      cases q : H b with
      | none => rfl
      | some u =>
        obtain ⟨rfl, _⟩ := alone b u q
        rw [ha] at e
        cases e
        exact nomatch (show Data.seq vs.toArray _ = Data.dict es ep from d)
    have KB : K.In (hidT s₁.heap H) := fun b o e => by
      refine hidT_get (KX b o e) ?_
      cases q : H b with
      | none => rfl
      | some u =>
        obtain ⟨rfl, z⟩ := alone b u q
        rw [z] at e; cases e
    obtain ⟨mc, l1, l2⟩ := hlim
    have md : Mod K mg (hidT s₁.heap H) := ⟨KB, dict_free hns, ⟨mb, dict_free hb, hbb⟩, ⟨mc, dict_free l1, l2⟩⟩
    have en : Env0 P w K mg (hidT s₁.heap H) callerA [] s₁ H :=
      ⟨rfl, md, fun b o e => of_hidT e, Nat.le_of_eq (hidT_size _ _), trivial, (fun b hb => nomatch (show b ∈ ([] : List Addr) from hb)), ok, .of_eq hg⟩
    refine codeAny_mono ((F _ KB (dict_free hns)).run callerA [] s₁ H ⟨[.ref a], []⟩ [.ref a] [.ref a] _ _ rfl hr en
      (hbind s₁ (.ref a)) (.cons rfl .nil) (hsp H only hS)) fun r s' h => ?_
    match r, h with
    | .error e, h => exact (hCX H e s' h).elim
    | .ok (.ret u), ⟨v, H', os, bare, un, ok', rel, q⟩ =>
      have q : v = .bl true := q
      subst q
      obtain rfl : u = Value.bool true := rel
      refine ⟨rfl, OldK.of_keep fun b o e => ?_, os, bare⟩
      rcases only b with z | ⟨ob, xs, z⟩
      · exact un.keep b o e z (fun y => nomatch (show b ∈ ([] : List Addr) from y)) (fun y => nomatch y)
      · have e1 := (ok b _ z).1
        have e2 := (ok' b _ (un.frzs b ob _ z)).1
        rw [e] at e1
        cases e1
        exact e2
  by_cases hk : ∃ o, K.lookup a = some o
  · obtain ⟨o, hk⟩ := hk
    have e := KX a o hk
    rw [ha] at e
    cases e
    exact go (fun _ => none) (fun _ => .inl rfl)
      (.inr ⟨_, vs.toArray, _, hk, rfl, rfl, rfl, by rw [List.size_toArray, lv]; exact hl, by simpa using rv⟩)
      (fun b u z => nomatch (show (none : Option HO) = some u from z)) (fun b u z => nomatch (show (none : Option HO) = some u from z))
  · have hk : K.lookup a = none := by
      cases q : K.lookup a with
      | none => rfl
      | some o => exact absurd ⟨o, q⟩ hk
    let H1 : Hp := upd (fun _ => none) a (.frz { cls := .type "list", data := .seq vs.toArray } (.lst (ns.map V.int)))
    have off : ∀ b, b ≠ a → H1 b = none := fun b hb => upd_ne hb
    have at_ : H1 a = some (.frz { cls := .type "list", data := .seq vs.toArray } (.lst (ns.map V.int))) := upd_same
    refine go H1 (fun b => ?_) (.inl (.inr ⟨_, at_⟩)) (fun b u z => ?_) fun b u z => ?_
    · by_cases hb : b = a
      · exact .inr ⟨_, _, by rw [hb]; exact at_⟩
      · exact .inl (off b hb)
    · by_cases hb : b = a
      · rw [hb, at_] at z
        cases z
        rw [hb]
        exact ⟨ha, by rw [List.length_map]; exact hl, vs, _, rv, ha⟩
      · rw [off b hb] at z; cases z
    · by_cases hb : b = a
      · exact ⟨hb, hk⟩
      · rw [off b hb] at z; cases z
theorem walk_ofG {l : PySem.W.OpenLaw} {n k : Nat} {q : Program} {loose : List Str} {XP : (Str → Option Value) → Heap → Prop} {YP : World → Heap → Prop} {d : DefRec} {CX : World → CXT} {x : Str}
    (hn : l.most = some n) (hn2 : n ≤ sizeLine) (hdf : d.params.defaults = []) (hr : Room k callerA)
    (F : ∀ (w : World) (mg : Str → Option Value) (fa : Addr) (h : Heap), YP w h → h.Ns mainGlobals mg → mg d.name = some (.ref fa) →
      ∃ (K : PySem.W.Frag) (fd : FuncData) (sp : Sp), K.In h ∧ (∀ (s : Shared) (u : Value), BindsTo s fd ⟨[u], []⟩ [(x, u)]) ∧
        (∀ (H : Hp) (a : Addr) (ns : List Int), ns.length ≤ n → Only H → SqL K H a (ns.map V.int) → sp [.ref a] H (fun v _ => v = .bl true) fun _ _ _ => False) ∧
        ∀ base : Heap, K.In base → base.Ns mainGlobals mg → FnOkG l.prog w K mg base (CX w) k fa fd [x] sp)
    (hCX : ∀ (w : World) (H : Hp) (s : Shared) (e : Value) (s' : Shared), CX w [] H s (fun _ _ _ => False) e s' → False) :
    PySem.W.WalkO q loose XP YP l.row.toRowW d [] (fun f vs => PySem.call f vs) :=
  Att.attach_call hn hdf fun w s₀ s₁ mg mb fa o pm cd doc a vs ns G Y ho hd hcd hmg hobj hints hlen hg => by
    obtain ⟨K, fd, sp, KX, hb, hsp, hF⟩ := F w mg fa _ Y G.T.g hmg
    exact law_callG KX G.T.g G.T.b G.T.builtins G.T.nolimit hg hobj hints (Nat.le_trans hlen hn2) hr hF hb
      (fun H hO hS => hsp H a ns hlen hO hS) fun H e s' => hCX w H s₁ e s'
end R
set_option maxHeartbeats 4123456
/-! R10: drawing inside expressions, new boxes, packs made. -/
namespace R
open PySem L2
def SrcE (K : PySem.W.Frag) (wi : TI) (δ : List En) (c : Nat) (P : List Da → Prop) : Prop := ∀ bp He bx σ G H, Same G H → ER K bp He bx G H σ δ → ∀ R : It → Hp → Prop,
  (∀ J ds G' H', Ext bx G H G' H' → BoxStep bx H H' c → P ds → Walk J ds.length (fun H2 => Same G' H2) (YD K G' ds) → R J H') → wi σ H R
section
variable {K : PySem.W.Frag} {δ δ1 : List En} {ta tb tc te tx tl to : TE} {t u : TT} {d d0 d1 d2 d3 : Da} {ds es : List Da} {r r' : R2} {c c0 c1 c2 : Nat} {P P1 P2 : Da → Prop} {PA PL : List Da → Prop} {g : TG} {ts : TS} {D : Po}
theorem evd_isiN {n : String} (b : Bool) (ty : String) (h : Evd K tx δ d) (e1 : tyD d = ty := by rfl) (e2 : kitB ty n = some b := by decide +kernel) (hp : ∀ cs, d ≠ .pck cs := by exact (fun _ z => nomatch z)) : Evd K (tCB (rIsi K) (tCons tx (tCons (tC (.ty n)) tNil))) δ (.bl b) :=
  evd_isi h (by rw [e1]; exact e2) hp
theorem isiAny_ty {d' : Da} (e : tyD d = tyD d') : ∀ ns : List String, isiAny d ns = isiAny d' ns
  | [] => rfl
  | n :: ns => by unfold isiAny; rw [e, isiAny_ty e ns]
theorem evd_isiLT {b : Bool} (h : Evd K tx δ (seqD b ds)) : Evd K (tCB (rIsiT K) (tCons tx (tCons (tTup (tCons (tC (.ty "list")) (tCons (tC (.ty "tuple")) tNil))) tNil))) δ (.bl true) := by
  cases b with
  | true => exact evd_isiT2 h (show isiAny (.lst ds) _ = some true from (isiAny_ty (d := .lst ds) (d' := .lst []) rfl ["list", "tuple"]).trans (by decide +kernel)) (fun _ z => nomatch z)
  | false => exact evd_isiT2 h (show isiAny (.tup ds) _ = some true from (isiAny_ty (d := .tup ds) (d' := .tup []) rfl ["list", "tuple"]).trans (by decide +kernel)) (fun _ z => nomatch z)
theorem opn_lenSeq {b : Bool} : Opn K (rLenA K) [seqD b ds] (.int ds.length) := by
  cases b with
  | true => exact opn_lenL
  | false => exact opn_lenT
theorem eve_op {P : Da → Prop} (ha : Eve K ta δ c1 P1) (hb : Eve K tb (bmp c1 δ) c2 P2) (hr : ∀ d1 d2, P1 d1 → P2 d2 → ∃ d, Op2 K r d1 d2 d ∧ P d) : Eve K (tOp r ta tb) δ (c1 + c2) P := fun bp He bx σ G H le E Q q =>
  ha bp He bx σ G H le E _ fun v1 d1 G1 H1 x1 b1 r1 p1 => hb bp He bx σ G1 H1 x1.le (E.step x1 b1) _ fun v2 d2 G2 H2 x2 b2 r2 p2 => by
    obtain ⟨d, ho, p⟩ := hr d1 d2 p1 p2
    exact ho v1 v2 G2 H2 x2.le (r1.mono x2.gg) r2 Q fun v G3 H3 x3 r3 => q v d G3 H3 ((x1.trans x2).trans x3.none_to) ((b1.trans b2).trans (x3.boxStep 0)) r3 p
theorem eve_cb {r : List V → Hp → VK → Prop} {ta : TA} (ha : EveA K ta δ c PA) (hr : ∀ ds, PA ds → ∃ d, Opn K r ds d ∧ P d) : Eve K (tCB r ta) δ c P := fun bp He bx σ G H le E Q q =>
  ha bp He bx σ G H le E _ fun vs ds G1 H1 x1 b1 r1 p1 => by
    obtain ⟨d, ho, p⟩ := hr ds p1
    exact ho vs G1 H1 x1.le r1 Q fun v G3 H3 x3 r3 => q v d G3 H3 (x1.trans x3.none_to) (b1.trans (x3.boxStep 0)) r3 p
theorem eve_tup {ta : TA} (ha : EveA K ta δ c PA) (hl : ∀ ds, PA ds → ds.length ≤ 100000 ∧ P (.tup ds)) : Eve K (tTup ta) δ c P := fun bp He bx σ G H le E Q q =>
  ha bp He bx σ G H le E _ fun vs ds G1 H1 x1 b1 r1 p1 => ⟨by rw [r1.len]; exact len_line (hl ds p1).1, fun p hp => q (.ref p) (.tup ds) _ _ (x1.trans (Ext.new x1.le hp)) (b1.trans ((Ext.new (bx := none) x1.le hp).boxStep 0)) (.tup (SqT.of upd_same) (r1.mono (same_known (x1.le.free hp)))) (hl ds p1).2⟩
theorem eve_lst {ta : TA} (ha : EveA K ta δ c PA) (hl : ∀ ds, PA ds → ds.length ≤ 100000 ∧ P (.lst ds)) : Eve K (tLst ta) δ c P := fun bp He bx σ G H le E Q q =>
  ha bp He bx σ G H le E _ fun vs ds G1 H1 x1 b1 r1 p1 => ⟨by rw [r1.len]; exact len_line (hl ds p1).1, fun p hp => q (.ref p) (.lst ds) _ _ (x1.trans (Ext.new x1.le hp)) (b1.trans ((Ext.new (bx := none) x1.le hp).boxStep 0)) (.lst upd_same (r1.mono (same_known (x1.le.free hp)))) (hl ds p1).2⟩
theorem Eve.imp {P' : Da → Prop} {c' : Nat} (h : Eve K te δ c P) (l : c ≤ c') (k : ∀ d, P d → P' d) : Eve K te δ c' P' := (h.mono k).le l
theorem EveA.imp {ta : TA} {PA' : List Da → Prop} {c' : Nat} (h : EveA K ta δ c PA) (l : c ≤ c') (k : ∀ d, PA d → PA' d) : EveA K ta δ c' PA' := fun bp He bx σ G H le E Q q =>
  h bp He bx σ G H le E Q fun v d G' H' x b r p => q v d G' H' x (b.mono l) r (k d p)
/-- one argument that draws -/
theorem eveA_one (h : Eve K ta δ c P) : EveA K (tCons ta tNil) δ c (fun ds => ∃ d, ds = [d] ∧ P d) := fun bp He bx σ G H le E Q q =>
  h bp He bx σ G H le E _ fun v d G1 H1 x1 b1 r1 p1 => q [v] [d] G1 H1 x1 b1 (.cons r1 .nil) ⟨d, rfl, p1⟩
theorem eveA_two (h : Eve K ta δ c1 P1) (h2 : Eve K tb (bmp c1 δ) c2 P2) : EveA K (tCons ta (tCons tb tNil)) δ (c1 + c2) (fun ds => ∃ d e, ds = [d, e] ∧ P1 d ∧ P2 e) := fun bp He bx σ G H le E Q q =>
  h bp He bx σ G H le E _ fun v d G1 H1 x1 b1 r1 p1 => h2 bp He bx σ G1 H1 x1.le (E.step x1 b1) _ fun w e G2 H2 x2 b2 r2 p2 => q [v, w] [d, e] G2 H2 (x1.trans x2) (b1.trans b2) (.cons (r1.mono x2.gg) (.cons r2 .nil)) ⟨d, e, rfl, p1, p2⟩
/-- walked -/
theorem src_listE (h : Eve K tl δ c P) (hP : ∀ d, P d → ∃ ds, d = .lst ds ∧ PL ds) : SrcE K (iList K tl) δ c PL := fun bp He bx σ G H le E R q =>
  h bp He bx σ G H le E _ fun v d G1 H1 x1 b1 r1 p1 => by
    obtain ⟨ds, rfl, p⟩ := hP d p1
    cases r1 with
    | @lst a xs _ hx rs =>
      refine ⟨a, rfl, ⟨xs, SqL.of (x1.le _ _ hx)⟩, q _ ds G1 H1 x1 b1 p ?_⟩
      rw [← rs.len]
      refine (walk_list (K := K) (a := a) (xs := xs)).mono (fun H2 s => SqL.of (s _ _ hx)) fun i H2 x H3 hi s y => ?_
      obtain ⟨rfl, e⟩ := y
      obtain ⟨d, e2, r2⟩ := rs.getV e
      exact fun G2 s1 s2 => ⟨G2, d, e2, Ext.refl s2, r2.mono s1⟩
theorem src_rng1E {PN : Int → Prop} (h : Eve K te δ c P) (hP : ∀ d, P d → ∃ n : Int, d = .int n ∧ -(2 ^ 61) ≤ n ∧ n ≤ 2 ^ 61 ∧ PN n) : SrcE K (iRng1 (tCons te tNil)) δ c (fun ds => ∃ n : Int, ds = irng 0 n.toNat ∧ PN n) := fun bp He bx σ G H le E R q =>
  h bp He bx σ G H le E _ fun v d G1 H1 x1 b1 r1 p1 => by
    obtain ⟨n, rfl, l1, l2, p⟩ := hP d p1
    rw [r1.intI]
    exact ⟨n, rfl, by omega, by omega, q _ _ G1 H1 x1 b1 ⟨n, rfl, p⟩ walk_irng⟩
theorem Srcd.E {wi : TI} (h : Srcd K wi δ ds) : SrcE K wi δ 0 (· = ds) := fun bp He bx σ G H le E R q =>
  h bp He bx σ G H le E R fun J G' H' x w => q J ds G' H' x.none_to (x.boxStep 0) rfl w
/-- [te for g in wi], the source and each turn draw -/
theorem eveo_lcE {wi : TI} {vs js : List Nat} {N : Nat} {PT : List Da → Nat → Da → Prop} (hs : SrcE K wi δ c0 PL) (hj : ∀ j ∈ js, j ∈ vs) (hn : ∀ ds, PL ds → ds.length ≤ N) (hN : N ≤ 50000)
    (h : ∀ ds, PL ds → ∀ (i : Nat) d, ds[i]? = some d → ∃ δ2, Tgd K g js d (wipeE (bmp (c0 + i * c) δ) vs) δ2 ∧ Eve K te δ2 c (PT ds i)) :
    EveO K (tLc wi g tYes te vs) δ (c0 + N * c) (fun rs => ∃ ds, PL ds ∧ rs.length = ds.length ∧ ∀ i r, rs[i]? = some r → PT ds i r) := by
  intro bp He bx σ G H le E Q q
  refine hs bp He bx σ G H le E _ fun J ds G1 H1 x1 b1 pl w D hD => ?_
  have hn := hn ds pl
  have E1 := E.step x1 b1
  have nb : bx ≠ some D := E1.notBox hD
  refine lc_it w (Pv := fun i H' => ∃ G' acc rs, Ext bx G1 H1 G' H' ∧ BoxStep bx H1 H' (i * c) ∧ G' D = none ∧ H' D = some (.lst acc) ∧ Reps K G' acc rs ∧ rs.length = i ∧ ∀ j r, rs[j]? = some r → PT ds j r)
    ⟨G1, [], [], Ext.own x1.le hD, (Ext.own (G := G1) x1.le hD).boxStep _, x1.le.free hD, upd_same, .nil, rfl, fun j r e => by simp at e⟩ (fun i H' _ ⟨G', acc, rs, x, _⟩ => x.gg.trans x.le) ?_ ?_
  · rintro i x H2 H3 hi ⟨G', acc, rs, x2, b2, n2, n3, r2, hl, hP⟩ y
    obtain ⟨G3, d, e, x3, r3⟩ := y G' x2.gg x2.le
    have hDn : H2 D ≠ none := by rw [n3]; exact fun z => nomatch z
    have n4 : G3 D = none := (x3.gs D hDn).trans n2
    have n5 : H3 D = some (.lst acc) := x3.hh D _ (fun z => nomatch z) n3
    obtain ⟨δ2, hg, he⟩ := h ds pl i d e
    have E3 := (E1.step x2 b2).lift x3
    rw [bmp_bmp] at E3
    refine hg bp He bx (wipe σ vs) G3 H3 x x3.le (E3.wipe vs) r3 _ fun σ' E' l' k' => ⟨wipe_eq hj l' k', ?_⟩
    unfold tYes
    dsimp only
    rw [if_pos rfl]
    have m5 : H3 D ≠ none := by rw [n5]; exact fun z => nomatch z
    refine he bp He bx σ' G3 H3 x3.le E' _ fun v r G5 H5 x5 b5 r5 p5 => ?_
    have x15 : Ext bx G1 H1 G5 H5 := (x2.trans x3.none_to).trans x5
    have n6 : G5 D = none := (x5.gs D m5).trans n4
    have b15 : BoxStep bx H1 H5 ((i + 1) * c) := ((b2.trans (x3.boxStep 0)).trans b5).mono (by rw [Nat.succ_mul]; exact Nat.le_refl _)
    refine ⟨acc, x5.hh D _ nb n5, len_lt (by rw [r2.len]; omega), G5, acc ++ [v], rs ++ [r], x15.mut hD n6, b15.upd nb, n6, upd_same, ?_, by rw [List.length_append, hl]; rfl, ?_⟩
    · exact (r2.mono ((x3.none_to (bx := bx)).trans x5).gg).app (.cons r5 .nil)
    · intro j r' e'
      by_cases hjj : j < rs.length
      · rw [List.getElem?_append_left hjj] at e'
        exact hP j r' e'
      · rw [List.getElem?_append_right (by omega)] at e'
        have : j - rs.length = 0 := by
          have := (List.getElem?_eq_some_iff.mp e').1
          simp at this; omega
        rw [this] at e'
        cases e'
        have : j = i := by omega
        rw [this]; exact p5
  · rintro H' ⟨G', acc, rs, x2, b2, n2, n3, r2, hl, hP⟩
    have hD0 : H D = none := by
      cases e : H D with
      | none => rfl
      | some o => exact absurd hD (x1.hn D (by rw [e]; exact fun z => nomatch z))
    exact q D acc rs G' H' nb (x1.trans x2) ((b1.trans b2).mono (Nat.add_le_add_left (Nat.mul_le_mul_right c hn) c0)) hD0 n2 n3 r2 ⟨ds, pl, hl, hP⟩
/-- for, the source draws -/
theorem std_forE {wi : TI} {js : List Nat} (hs : SrcE K wi δ c PL) (I : List Da → Nat → List En → Prop) (h0 : ∀ ds, PL ds → I ds 0 (bmp c δ))
    (hb : ∀ ds, PL ds → ∀ (i : Nat) d δ1, ds[i]? = some d → I ds i δ1 → ∃ δ2, Tgd K g js d δ1 δ2 ∧ Std K ts δ2 { D with nx := I ds (i + 1), ct := I ds (i + 1), bk := D.nx })
    (hd : ∀ ds, PL ds → ∀ δ1, I ds ds.length δ1 → D.nx δ1) : Std K (tFor wi g ts) δ D := fun bp tp Ge He bx G H σ E x er kn kr kb kc =>
  hs bp He bx σ G H x.le er _ fun J ds G1 H1 x1 b1 pl w => by
    refine for_it w (Pv := fun i σ' H' => ∃ bx' G' δ', Ext bp Ge He G' H' ∧ Same G1 G' ∧ ER K bp He bx' G' H' σ' δ' ∧ I ds i δ') ⟨bx, G1, _, x.join er.bxo x1, Same.refl G1, er.step x1 b1, h0 ds pl⟩
      (fun i σ' H' _ ⟨_, G', _, x', s, _⟩ => s.trans x'.le) ?_ ?_
    · rintro i v σ' H2 H3 hi ⟨bx', G2, δ', x2, s2, er2, hI⟩ y
      obtain ⟨G3, d, e, x3, r3⟩ := y G2 s2 x2.le
      obtain ⟨δ2, hg, hst⟩ := hb ds pl i d δ' e hI
      have x23 := x2.trans (x3.none_to (bx := bp))
      refine hg bp He bx' σ' G3 H3 v x3.le (er2.lift x3) r3 _ fun σ2 er4 _ _ => ?_
      have s03 : Same G G3 := x1.gg.trans (s2.trans x3.gg)
      have kI : KN K bp Ge He G3 (I ds (i + 1)) (fun σ' H' => ∃ bx' G' δ', Ext bp Ge He G' H' ∧ Same G1 G' ∧ ER K bp He bx' G' H' σ' δ' ∧ I ds (i + 1) δ') := fun bx5 G5 H5 σ5 δ5 x5 s5 er5 p5 =>
        ⟨bx5, G5, δ5, x5, (s2.trans x3.gg).trans s5, er5, p5⟩
      exact hst bp tp Ge He bx' G3 H3 σ2 { E with nx := _, ct := _, bk := E.nx } x23 er4 kI (kr.lift s03) (kn.lift s03) kI
    · rintro σ' H' ⟨bx', G2, δ', x2, s2, er2, hI⟩
      exact kn bx' G2 H' σ' δ' x2 (x1.gg.trans s2) er2 (hd ds pl δ' hI)
theorem std_asgTE {js : List Nat} (h : Eve K te δ c P) (hg : ∀ d, P d → ∃ δ1, Tgd K g js d (bmp c δ) δ1 ∧ D.nx δ1) : Std K (tAsg te g) δ D := fun bp tp Ge He bx G H σ E x er kn kr kb kc =>
  h bp He bx σ G H x.le er _ fun v d G1 H1 x1 b1 r p => by
    obtain ⟨δ1, ht, k⟩ := hg d p
    exact ht bp He bx σ G1 H1 v x1.le (er.step x1 b1) r _ fun σ' er' _ _ => kn bx G1 H1 _ _ (x.join er.bxo x1) x1.gg er' k
/-- texts joined, drawn -/
theorem eve_join {a : Str} {te : TE} (ho : Evd K to δ (.str a)) (ha : Eve K te δ c P) (hP : ∀ d, P d → ∃ ys : List Str, d = .lst (ys.map .str) ∧ (ys.map (·.length)).sum + ys.length * a.length ≤ 16777216 ∧ P2 (.str (Str.join a ys))) :
    Eve K (tBM K "str" (rJoin K) to (tCons te tNil)) δ c P2 := fun bp He bx σ G H le E Q q =>
  ho bp He bx σ G H le E _ fun v G1 H1 x1 r1 => ⟨tyS x1.le r1, ha bp He bx σ G1 H1 x1.le (E.lift x1) _ fun w d G2 H2 x2 b2 r2 p2 => by
    obtain ⟨ys, rfl, hl, p⟩ := hP d p2
    exact opm_join hl v [w] G2 H2 x2.le (r1.mono x2.gg) (.cons r2 .nil) Q fun u G3 H3 x3 r3 => q u _ G3 H3 ((x1.none_to.trans x2).trans x3.none_to) ((((x1.boxStep 0).trans b2).trans (x3.boxStep 0)).mono (by omega)) r3 p⟩

/-! ### boxes -/
/-- a def that hands back a new box -/
def BnSp : Sp := fun vs H Q _ => ∃ G c, vs = [.int c] ∧ Same G H ∧ ∀ l G' H' c0 c1, Ext none G H G' H' → H l = none → G' l = none → H' l = some (.lst [.int c0, .int c1, .int 0]) → BoxV c0 c1 0 0 → Q (.ref l) H'
def noBox1 : En → En
  | .box _ => .any
  | e => e
theorem noBox_own {i : Nat} (h : (δ.map noBox1)[i]? = some (.own ds)) : δ[i]? = some (.own ds) := by
  rw [List.getElem?_map] at h
  cases e : δ[i]? with
  | none => rw [e] at h; cases h
  | some en => rw [e] at h; cases en <;> first | (cases h; rfl) | cases h
theorem std_asgBox {i : Nat} {E0 : XK} {cc : Int} (top : D.top = true) (h : Evd K te δ (.int cc)) (k : D.nx ((δ.map noBox1).set i (.box 0))) : Std K (tAsg (tCall BnSp [] E0 (tCons te tNil)) (gName i)) δ D := fun bp tp Ge He bx G H σ E x er kn kr kb kc =>
  h bp He bx σ G H x.le er _ fun v G1 H1 x1 r1 => by
    have ebp : bp = none := tp top
    subst ebp
    have er1 := er.lift x1
    refine ⟨G1, cc, by rw [r1.intI]; rfl, x1.le, fun l G2 H2 e0 e1 x2 hl gl hb2 bv => ?_⟩
    have er2 := er1.lift x2
    have hle : He l = none := x.freeE (x1.free hl)
    have hlt : ∀ j, σ[j]? = some (some (V.ref l)) → ∀ es : List Da, δ[j]? ≠ some (En.own es) := fun j e es z => by
      obtain ⟨l', vs, e2, _, _, c, _⟩ := er1.ownAt z
      rw [e] at e2; cases e2
      rw [hl] at c; cases c
    show E.nx (σ.set i (some (.ref l))) _
    refine kn (some l) G2 _ _ _ (x.trans (x1.trans x2)) (x1.gg.trans x2.gg) ?_ k
    refine ⟨by rw [List.length_set, List.length_set, List.length_map]; exact er.len, fun j en hj => ?_, fun j k' ds es l' ne h1 h2 h3 => ?_, fun b e => ?_, fun b e => ?_, (fun b e => nomatch e)⟩
    · by_cases hij : i = j
      · subst hij
        have hi : i < (δ.map noBox1).length := by
          have := (List.getElem?_eq_some_iff.mp hj).1
          rwa [List.length_set] at this
        rw [List.getElem?_set_self hi] at hj
        cases hj
        rw [List.getElem?_set_self (by rw [er.len]; rwa [List.length_map] at hi)]
        exact ⟨l, e0, e1, 0, rfl, rfl, gl, hb2, bv⟩
      · rw [List.getElem?_set_ne hij] at hj ⊢
        rw [List.getElem?_map] at hj
        cases e : δ[j]? with
        | none => rw [e] at hj; cases hj
        | some en' =>
          rw [e] at hj
          have z := er2.at_ j en' e
          cases en' with
          | any => cases hj; trivial
          | rep d => cases hj; exact z
          | own ds =>
            cases hj
            obtain ⟨l', vs, e', a', b', c', r', n'⟩ := z
            exact ⟨l', vs, e', a', b', c', r', fun y => by
              cases y
              exact hlt j (join_some e') ds e⟩
          | dct ds =>
            cases hj
            obtain ⟨l', vs, e', a', b', c', r', n'⟩ := z
            exact ⟨l', vs, e', a', b', c', r', fun y => by
              cases y
              rw [hb2] at c'; cases c'⟩
          | box n => cases hj; trivial
    · have n1 : i ≠ j := fun z => by
        subst z
        rw [List.getElem?_set] at h1
        split at h1 <;> simp_all
      have n2 : i ≠ k' := fun z => by
        subst z
        rw [List.getElem?_set] at h2
        split at h2 <;> simp_all
      rw [List.getElem?_set_ne n1] at h1 h3
      rw [List.getElem?_set_ne n2] at h2 ⊢
      exact er2.sep j k' ds es l' ne (noBox_own h1) (noBox_own h2) h3
    · cases e; exact .inr hle
    · cases e; exact ⟨by rw [hb2]; exact (fun z => nomatch z), gl⟩

/-! ### packs -/
/-- Pack.__init__: vs the new instance and the cards; the rows are the dict dd -/
def PkSp (K : PySem.W.Frag) (ok : List (Str × Str) → Prop) : Sp := fun vs H Q _ => ∃ G x dx a cs, vs = [.ref x, a] ∧ Same G H ∧ G x = none ∧ H x = some (.ins (PC K) dx []) ∧ Rep K G a (.lst (cardsD cs)) ∧ ok cs ∧ x ≠ dx ∧ G dx = none ∧ H dx = some (.own x) ∧
  ∀ G' H' dd o, Ext none G H G' (upd H' x (.ins (PC K) dx [])) → G' x = none → G' dx = none → H' x = some (.ins (PC K) dx [(("pack_rows" : Str), .ref dd)]) → H' dx = some (.own x) → dd ≠ x → G' dd = some (.frz o (.dK (rowsOf cs))) → Q .non H'
theorem evd_make {ok : List (Str × Str) → Prop} {E0 : XK} {cs : List (Str × Str)} (h : Evd K te δ (.lst (cardsD cs))) (hk : ok cs) : Evd K (tMake (PC K) (PkSp K ok) [] E0 (tCons te tNil)) δ (.pck cs) := fun bp He bx σ G H le E Q q =>
  h bp He bx σ G H le E _ fun v G1 H1 x1 r1 x dx hx hdx ne => by
    have le2 : Same G1 (upd (upd H1 dx (.own x)) x (.ins (PC K) dx [])) := fun a u e => by
      rw [upd_ne (ne_of_none (x1.le a u e) hx), upd_ne (ne_of_none (x1.le a u e) hdx)]; exact x1.le a u e
    have gx : G1 x = none := x1.le.free hx
    have gdx : G1 dx = none := x1.le.free hdx
    refine ⟨G1, x, dx, v, cs, rfl, le2, gx, upd_same, r1, hk, fun z => ne z.symm, gdx, by rw [upd_ne ne, upd_same], fun G' H' dd o x2 g1 g1d g2 g3 n4 g4 => ⟨rfl, ?_⟩⟩
    -- the instance becomes known
    let G2 : Hp := upd (upd G' dx (.own x)) x (.ins (PC K) dx [(("pack_rows" : Str), .ref dd)])
    have s2 : Same G' G2 := fun a u e => by
      show upd (upd G' dx _) x _ a = _
      rw [upd_ne (ne_of_none e g1), upd_ne (ne_of_none e g1d)]; exact e
    have g2d : G2 dx = some (.own x) := by
      show upd (upd G' dx _) x _ dx = _
      rw [upd_ne ne]; exact upd_same
    refine q (.ref x) G2 H' (x1.trans ⟨x2.gg.trans s2, fun a u _ e => ?_, fun a e => ?_, fun a e => ?_, fun a u e => ?_⟩) (.pck upd_same g2d (s2 _ _ g4))
    · have nx : a ≠ x := fun z => by rw [z, hx] at e; cases e
      have nd : a ≠ dx := fun z => by rw [z, hdx] at e; cases e
      have z := x2.hh a u (fun y => nomatch y) (by rw [upd_ne nx, upd_ne nd]; exact e)
      rwa [upd_ne nx] at z
    · have nx : a ≠ x := fun z => e (by rw [z]; exact hx)
      have nd : a ≠ dx := fun z => e (by rw [z]; exact hdx)
      have z := x2.hn a (by rw [upd_ne nx, upd_ne nd]; exact e)
      rwa [upd_ne nx] at z
    · have nx : a ≠ x := fun z => e (by rw [z]; exact hx)
      have nd : a ≠ dx := fun z => e (by rw [z]; exact hdx)
      show upd (upd G' dx _) x _ a = _
      rw [upd_ne nx, upd_ne nd]
      exact x2.gs a (by rw [upd_ne nx, upd_ne nd]; exact e)
    · by_cases nx : a = x
      · subst nx
        have e : upd (upd G' dx (.own a)) a (.ins (PC K) dx [(("pack_rows" : Str), .ref dd)]) a = some u := e
        rw [upd_same] at e; cases e; exact g2
      · have e : upd (upd G' dx (.own x)) x (.ins (PC K) dx [(("pack_rows" : Str), .ref dd)]) a = some u := e
        rw [upd_ne nx] at e
        by_cases nd : a = dx
        · subst nd
          rw [upd_same] at e; cases e; exact g3
        · rw [upd_ne nd] at e
          have z := x2.le a u e
          rwa [upd_ne nx] at z
end
end R
set_option maxHeartbeats 4123456
/-! R11: dicts of one's own, list(d), list(d.values()), enumerate of a text, extend, is None. -/
namespace R
open PySem PySem.Spec PyProof.Rows L2
section
variable {X : Cx} {a b c e o : Expr} {te ta tb : TE} {p pos apos cpos : Pos}
/-- list(d.values()), d locked -/
def rValsF : V → Hp → VK → Prop := fun x H Q => ∃ (d : Addr) (o : Obj) (kvs : List (Key × V)), x = .ref d ∧ H d = some (.frz o (.dK kvs)) ∧ ∀ p, H p = none → Q (.ref p) (upd H p (.lst (kvs.map (·.2))))
def tValsF (te : TE) : TE := fun σ H Q => te σ H fun x H1 => rValsF x H1 Q
theorem pe_valsF (hc : X.calm = true) (he : PE X e te) (hg : Gl X "list") (hm : X.mg "list" = none) (hv : bootBuiltins "list" = some (.type "list"))
    (hbase : attributeBase e "values" X.env (eval e X.env) = eval e X.env := by rfl) (hline : (apos.endLine == cpos.line) = true := by rfl)
    (hs : starEach [.Call (.Attribute e "values" apos) [] [] cpos] X.env = (false, eval (.Call (.Attribute e "values" apos) [] [] cpos) X.env) :: starEach [] X.env := by rfl) :
    PE X (.Call (.Name "list" p) [.Call (.Attribute e "values" apos) [] [] cpos] [] pos) (tValsF te) := by
  refine ⟨fun pins s σ H Q I hq => ?_⟩
  refine wpAny_Call_Name_kw (ld_blt I hg hm hv (PyProof.Rows.callWith_type1 ?_ hs rfl))
  rw [hs]
  refine Calls.spliced_cons (wpAny_Call_method (T := "dict") (id := "dict.values") hbase rfl hline F.plainAttrs_dict F.slot_dict_values F.type_dict_values
    (thn (he.run pins s σ H _ I hq) fun u s1 ⟨x, H1, I1, rx, d, o, kvs, ex, hd, q⟩ => ?_))
  subst ex
  obtain rfl : u = Value.ref d := rx
  obtain ⟨_, hz, hs0, vs, kv, hdo⟩ := I1.hok d _ hd
  obtain ⟨ep, hat⟩ := hdo.dictAt
  have lk : kvs.length = vs.length := Paired.length kv
  have I2 : Inv X pins σ H1 { s1 with heap := s1.heap.push { cls := .type "dict_values", data := .fields #[.ref d] } } :=
    I1.kept (t' := s1.toks) fun b ob q => Heap.get?_push_of_some _ q
  refine ⟨hdo.typeIs, hdo.mapOf.noDict, ?_⟩
  show wpAny _ _ (callWith cpos (.builtin "dict.values") [.ref d] [] []) _ X.xe s1
  refine method_meetsIn F.slot_dict_values F.entry_dict_values rfl
    (PySem.evalArgs_none ⟨rfl, hdo.typeIs, F.args_dict_values_1 _, _, meets_dict_values (mixKind X.prog X.w) d hs0, ⟨vs, hdo⟩, ?_⟩)
  refine Calls.spliced_nil (PySem.W.kdl_call (PySem.W.kdl_values (knd := mixKind X.prog X.w) (kvs := vs) (ep := ep)) (I1.ok.hd hc)
    ⟨⟨_, Heap.get?_push_size _ rfl, rfl, rfl⟩, hat.push _⟩ (by rw [← lk]; exact hz) fun h' tk acc c' hk hD hacc => ?_)
  have hv : Vals (kvs.map (·.2)) acc.toList := vals_of_at (by have z := hacc.1; rw [List.length_map, lk, ← z]; exact (Array.length_toList).symm) fun j x u hx hu => by
    rw [List.getElem?_map] at hx
    cases ek : kvs[j]? with
    | none => rw [ek] at hx; cases hx
    | some q0 =>
      rw [ek] at hx
      cases hx
      obtain ⟨k0, v0⟩ := q0
      obtain ⟨u0, e0, r0⟩ := kv_get kv ek
      obtain ⟨k1, e1⟩ := hacc.2 j u (by rw [← Array.getElem?_toList]; exact hu)
      rw [e0] at e1
      cases e1
      exact r0
  refine ⟨.ref _, _, I2.laid (t' := tk) hk (Nat.le_refl _) (show ObjOk X.prog X.w _ _ _ (.lst (kvs.map (·.2))) from ⟨by rw [List.length_map]; exact hz, acc.toList, c', hv, by rw [Array.toArray_toList]; exact hD⟩), rfl, q _ (I2.hok.fresh (Nat.le_refl _))⟩

/-- enumerate(text) -/
def Ites (x : Str) : It := ⟨fun i _ => i < x.cps.size, fun i H v H' => ∃ T c, v = .ref T ∧ H T = none ∧ H' = upd H T (.tup [.int (i : Nat), .str ⟨#[c]⟩]) ∧ x.cps[i]? = some c, fun i _ => x.cps.size ≤ i⟩
theorem turn_enumS {P : Program} {w : World} {K : PySem.W.Frag} {elts : List Expr} {kk : Nat} {tpos : Pos} (x : Str) (t : Tok) (e it : Addr) :
    Turn P w K (.Tuple elts kk tpos) (Ites x) [e, it] e (fun i h => (∃ old, IsEnum h e it ((i : Nat) : Int) old) ∧ h.IsStrIter it (strIterType x) x t i ∧ e ≠ it ∧ i ≤ x.cps.size) where
  mem := by simp
  obj := fun i h st b hb => by
    obtain ⟨⟨old, he⟩, ⟨o, ho, hc, hd⟩, _⟩ := st
    have e' : b = e ∨ b = it := by simpa using hb
    rcases e' with z | z
    · rw [z]; exact ⟨_, he, fun v q => nomatch q⟩
    · rw [z]; exact ⟨o, ho, fun v q => by rw [hd] at q; cases q⟩
  keep := fun i h h' st k => let ⟨⟨old, he⟩, ⟨o, ho, r⟩, hne, hle⟩ := st; ⟨⟨old, k e (by simp) _ he⟩, ⟨o, k it (by simp) o ho, r⟩, hne, hle⟩
  item := by
    intro X hP hw hK hc i pins s σ H E I hf st hg
    subst hP hw hK
    obtain ⟨⟨old, he⟩, hit, hne, hle⟩ := st
    have hel : e < s.heap.objs.size := Heap.lt_size he
    have hil : it < s.heap.objs.size := by obtain ⟨_, q, _⟩ := hit; exact Heap.lt_size q
    refine wpAny_pyNext_enum_itemD (Draws.text (A := X.A.in1) (I.ok.hd hc) it x t) he hit hg hne (by simpa using hne) fun y h' tk hy ho hit' hT hsz hk => ?_
    obtain ⟨c, u, hcx, rfl⟩ := hy
    refine ⟨_, rfl, wpAny_letOwnedTupleGo_enum (s := { s with heap := h', toks := tk + 1 }) ho fun h'' he' sb => ?_⟩
    have hT2 : h''.get? s.heap.objs.size = some { cls := .type "tuple", data := .seq #[.int i tk, .str ⟨#[c]⟩ u] } := (sb.2 _ (Nat.ne_of_gt hel)).trans hT
    have new : ObjOk X.prog X.w (upd H s.heap.objs.size (.tup [.int (i : Nat), .str ⟨#[c]⟩])) h'' s.heap.objs.size (.tup [.int (i : Nat), .str ⟨#[c]⟩]) :=
      ⟨by show 2 ≤ sizeLine; decide, [.int i tk, .str ⟨#[c]⟩ u], .cons ⟨_, rfl⟩ (.cons ⟨_, rfl⟩ .nil), ⟨_, hT2, rfl, _, rfl⟩⟩
    have I1 : Inv X pins σ (upd H s.heap.objs.size (.tup [.int (i : Nat), .str ⟨#[c]⟩])) { s with heap := h'', toks := tk + 1 } :=
      I.turnedNew (ch := [e, it]) (fun b ob hb q => (sb.2 b (fun z => hb (by simp [z]))).trans (hk b ob (fun z => hb (by simp [z])) (fun z => hb (by simp [z])) q)) hf (Nat.le_refl _) new
    refine ⟨.ref s.heap.objs.size, _, I1, rfl, ⟨_, c, rfl, I.hok.fresh (Nat.le_refl _), rfl, hcx⟩, ⟨⟨.str ⟨#[c]⟩ u, ?_⟩, ?_, hne, hg⟩, fun b hb => ?_⟩
    · have e1 : ((i + 1 : Nat) : Int) = (i : Int) + 1 := by omega
      rw [e1]; exact he'
    · obtain ⟨o, ho2, r⟩ := hit'
      exact ⟨o, (sb.2 it (Ne.symm hne)).trans ho2, r⟩
    · have hb' : b < s.heap.objs.size := by
        have e' : b = e ∨ b = it := by simpa using hb
        rcases e' with z | z
        · rw [z]; exact hel
        · rw [z]; exact hil
      rw [upd_ne (Nat.ne_of_lt hb')]
      exact (hf b hb).1
  done := by
    intro X hP hw hK hc i pins s σ H E I hf st hg
    subst hP hw hK
    obtain ⟨⟨old, he⟩, hit, hne, hle⟩ := st
    obtain ⟨f0, f1, f2, f3, f4, f5⟩ := hf it (by simp)
    have hi : i = x.cps.size := Nat.le_antisymm hle hg
    subst hi
    exact wpAny_pyNext_enum_endD (Draws.text (A := X.A.in1) (I.ok.hd hc) it x t) he hit fun h' eb => ⟨rfl, I.turned (t' := s.toks) (fun b o hb q => eb b o hb q) f0 f1 f3 f4 f5⟩
  self := fun A i s Q E st h => let ⟨⟨_, he⟩, _⟩ := st; wpAny_pyIter_enum he h
def iEnumS (ta : TA) : TI := fun σ H R => ta σ H fun vs H1 => ∃ x, vs = [.str x] ∧ R (Ites x) H1
theorem pi_enumS {elts : List Expr} {ta : TA} {tpos : Pos} {kk : Nat} (hg : Gl X "enumerate") (hm : X.mg "enumerate" = none) (ha : PA X [e] ta) (hs : starEach [e] X.env = [(false, eval e X.env)] := by rfl) :
    PI X (.Tuple elts kk tpos) (.Call (.Name "enumerate" p) [e] [] pos) (iEnumS ta) := by
  refine ⟨fun pins s σ H R I h => ?_⟩
  refine Call_ (ld_blt I hg hm boot_enumerate (PyProof.Rows.callWith_type1 (thn (ha.run pos pins s σ H _ I h) fun us s1 ⟨vs, H1, I1, r1, q1⟩ => ?_) hs rfl))
  obtain ⟨x, ex, q⟩ := q1
  subst ex
  cases r1 with
  | cons r rr =>
    cases rr
    obtain ⟨t, rfl⟩ := r
    refine call_enumerate_str fun h' he hit hsz hk => wpAny_pyIter_enum he ?_
    have I2 : Inv X pins σ H1 { s1 with heap := h' } := I1.kept (t' := s1.toks) hk
    refine ⟨s1.heap.objs.size + 1, [s1.heap.objs.size + 1, s1.heap.objs.size], _, _, H1, rfl, I2, turn_enumS x t (s1.heap.objs.size + 1) s1.heap.objs.size, ⟨⟨.none, he⟩, hit, Nat.succ_ne_self _, Nat.zero_le _⟩, fun b hb => ?_, q⟩
    have e' : b = s1.heap.objs.size + 1 ∨ b = s1.heap.objs.size := by simpa using hb
    have hle : s1.heap.objs.size ≤ b := by
      rcases e' with z | z
      · rw [z]; exact Nat.le_add_right _ _
      · rw [z]; exact Nat.le_refl _
    exact I1.fpOk hle (I1.hok.fresh hle)
theorem walk_enumS {x : Str} : Walk (Ites x) x.cps.size (fun _ => True) (fun i H v H' => ∃ T c, v = .ref T ∧ H T = none ∧ H' = upd H T (.tup [.int (i : Nat), .str ⟨#[c]⟩]) ∧ x.cps[i]? = some c) :=
  ⟨fun i H hi _ => hi, fun H _ => Nat.le_refl _, fun i H v H' hi _ y => y⟩
end
section
variable {K : PySem.W.Frag} {δ δ1 δ2 : List En} {ta tb tc te tx tl tk : TE} {d d0 d1 d2 d3 : Da} {ds es : List Da} {kds : List (Key × Da)} {r : R2} {D : Po} {ts : TS}
/-- the pairs of place and sign -/
def enumD (z : Str) : List Da := (List.range z.cps.size).map fun i => .tup [.int (i : Nat), .str ⟨#[(z.cps.toList[i]?).getD 0]⟩]
theorem enumD_len (z : Str) : (enumD z).length = z.length := by unfold enumD; rw [List.length_map, List.length_range]; rfl
theorem enumD_get {z : Str} {i c : Nat} (h : z.cps.toList[i]? = some c) : (enumD z)[i]? = some (.tup [.int (i : Nat), .str ⟨#[c]⟩]) := by
  have hi : i < z.cps.size := by
    have := (List.getElem?_eq_some_iff.mp h).1
    rwa [Array.length_toList] at this
  unfold enumD
  rw [List.getElem?_map, List.getElem?_range hi]
  show some (Da.tup [.int (i : Nat), .str ⟨#[(z.cps.toList[i]?).getD 0]⟩]) = _
  rw [h]; rfl
theorem enumD_at {z : Str} {i : Nat} {d : Da} (h : (enumD z)[i]? = some d) : ∃ c, z.cps.toList[i]? = some c ∧ d = .tup [.int (i : Nat), .str ⟨#[c]⟩] := by
  have hi := (List.getElem?_eq_some_iff.mp h).1
  rw [enumD_len] at hi
  have h2 : i < z.cps.toList.length := by rw [Array.length_toList]; exact hi
  have h3 := List.getElem?_eq_getElem h2
  rw [enumD_get h3] at h
  exact ⟨_, h3, (Option.some.inj h).symm⟩
theorem src_enumS {z : Str} (h : Evd K tl δ (.str z)) : Srcd K (iEnumS (tCons tl tNil)) δ (enumD z) := fun bp He bx σ G H le E R q =>
  h bp He bx σ G H le E _ fun v G1 H1 x1 r1 => by
    rw [r1.strI]
    refine ⟨z, rfl, q _ G1 H1 x1 ?_⟩
    have w := (walk_enumS (x := z)).mono (G' := fun H2 => Same G1 H2) (Y' := YD K G1 (enumD z)) (fun _ _ => trivial) fun i H2 x H3 hi s y => by
      obtain ⟨T, c, rfl, hT, rfl, hc⟩ := y
      refine fun G2 s1 s2 => ⟨_, .tup [.int (i : Nat), .str ⟨#[c]⟩], enumD_get (by rw [Array.getElem?_toList]; exact hc), Ext.new s2 hT, .tup (SqT.of upd_same) (.cons (.int _) (.cons (.str _) .nil))⟩
    have el : (enumD z).length = z.cps.size := enumD_len z
    rw [el]
    exact w
theorem RepK.vals {G : Hp} : ∀ {kvs : List (Key × V)} {kds : List (Key × Da)}, RepK K G kvs kds → Reps K G (kvs.map (·.2)) (kds.map (·.2))
  | _, _, .nil => .nil
  | _, _, .cons h r => .cons h r.vals
theorem RepK.keys {G : Hp} : ∀ {kvs : List (Key × V)} {kds : List (Key × Da)}, RepK K G kvs kds → Reps K G (kvs.map fun kv => kV kv.1) (kds.map fun k => keyD k.1)
  | _, _, .nil => .nil
  | _, _, .cons h r => .cons (rep_key _) r.keys
/-- list(d.values()) -/
theorem evo_vals (h : Evd K ta δ (.dic kds)) : EvO K (tValsF ta) δ (kds.map (·.2)) := fun bp He bx σ G H le E Q q =>
  h bp He bx σ G H le E _ fun v G1 H1 x1 r1 => by
    cases r1 with
    | @dic a o kvs _ hx rs =>
      exact ⟨a, o, kvs, rfl, x1.le _ _ hx, fun p hp => q p _ G1 _ (x1.trans (Ext.own x1.le hp)) (x1.free hp) (x1.le.free hp) upd_same rs.vals⟩
/-- list(d) -/
def rKeysF : List V → Hp → VK → Prop := fun xs H Q => ∃ (a : Addr) (kvs : List (Key × V)), xs = [.ref a] ∧ Rd H a (.dK kvs) ∧ ∀ p, H p = none → Q (.ref p) (upd H p (.lst (kvs.map fun kv => kV kv.1)))
theorem call_keysF {X : Cx} (hc : X.calm = true) : CallR X (.type "list") rKeysF := call_listD hc
theorem opno_keys : OpnO K rKeysF [.dic kds] (kds.map fun k => keyD k.1) := fun vs G H le rs Q q => by
  cases rs with
  | cons r1 r2 =>
    cases r2
    cases r1 with
    | @dic a o kvs _ hx rs =>
      exact ⟨a, kvs, rfl, .inr ⟨o, le _ _ hx⟩, fun p hp => q p _ G _ (Ext.own le hp) hp (le.free hp) upd_same rs.keys⟩
theorem evd_dnotin {k : Key} (hk : Evd K tb δ (keyD k)) (h : Evd K ta δ (.dic kds)) : Evd K (tDNotIn tb ta) δ (.bl (!(lookD kds k).isSome)) := fun bp He bx σ G H le E Q q =>
  hk bp He bx σ G H le E _ fun w G1 H1 x1 r2 => h bp He bx σ G1 H1 x1.le (E.lift x1) _ fun v G2 H2 x2 r1 => by
    cases r1 with
    | @dic a o kvs _ hx rs =>
      refine ⟨a, valV kvs k, rfl, .inl ⟨kvs, k, .inr ⟨o, x2.le _ _ hx⟩, r2.key, rfl⟩, ?_⟩
      rcases rs.look k with ⟨a1, b⟩ | ⟨v, d', a1, b, c⟩
      · rw [a1]; rw [b] at q; exact q _ G2 H2 (x1.trans x2) (.bl _)
      · rw [a1]; rw [b] at q; exact q _ G2 H2 (x1.trans x2) (.bl _)
/-- is None -/
def nonD : Da → Bool
  | .non => true
  | _ => false
theorem Rep.isNon {G : Hp} {v : V} (h : Rep K G v d) : decide (v = .non) = nonD d := by
  cases h <;> first | rfl | exact decide_eq_false (fun z => nomatch z)
theorem op2_isN : Op2 K rIsN d .non (.bl (nonD d)) := fun v1 v2 G H le r1 r2 Q q => by
  refine ⟨r2.nonI, ?_⟩
  rw [r1.isNon]
  exact q _ G H (Ext.refl le) (.bl _)
/-! ### a dict of one's own -/
def dctFree (i : Nat) : List En → Bool
  | [] => true
  | e :: δ => (match i, e with
    | 0, _ => true
    | _ + 1, .dct _ => false
    | _ + 1, _ => true) && dctFree (i - 1) δ
theorem std_asgD {i : Nat} (k : D.nx (δ.set i (.dct []))) : Std K (tAsg tDNewK (gName i)) δ D := fun bp tp Ge He bx G H σ E x er kn kr kb kc p hp => by
  have x1 : Ext none G H G (upd H p (.dK [])) := Ext.own x.le hp
  have er1 := er.lift x1
  refine kn bx G _ (σ.set i (some (.ref p))) _ (x.trans x1.none_to) (Same.refl G) ?_ k
  refine ⟨by rw [List.length_set, List.length_set, er.len], fun j en hj => ?_, fun j k' ds es l' ne h1 h2 h3 => ?_, er1.bxo, er1.bxt, er1.bxp⟩
  · by_cases hij : i = j
    · subst hij
      have hi : i < δ.length := by
        have := (List.getElem?_eq_some_iff.mp hj).1
        rwa [List.length_set] at this
      rw [List.getElem?_set_self hi] at hj
      cases hj
      rw [List.getElem?_set_self (by rw [er.len]; exact hi)]
      exact ⟨p, [], rfl, x.freeE hp, x.le.free hp, upd_same, .nil, er.notBox hp⟩
    · rw [List.getElem?_set_ne hij] at hj ⊢
      exact er1.at_ j en hj
  · have n1 : i ≠ j := fun z => by
      subst z
      rw [List.getElem?_set] at h1
      split at h1 <;> simp_all
    have n2 : i ≠ k' := fun z => by
      subst z
      rw [List.getElem?_set] at h2
      split at h2 <;> simp_all
    rw [List.getElem?_set_ne n1] at h1 h3
    rw [List.getElem?_set_ne n2] at h2 ⊢
    exact er1.sep j k' ds es l' ne h1 h2 h3
def putD (kds : List (Key × Da)) (k : Key) (v : Da) : List (Key × Da) :=
  if (kds.any fun kv => decide (kv.1 = k)) = true then kds.map (fun kv => if kv.1 = k then (kv.1, v) else kv) else kds ++ [(k, v)]
theorem RepK.any {G : Hp} (k : Key) : ∀ {kvs : List (Key × V)} {kds : List (Key × Da)}, RepK K G kvs kds → (kvs.any fun kv => decide (kv.1 = k)) = kds.any fun kv => decide (kv.1 = k)
  | _, _, .nil => rfl
  | _, _, .cons h r => by rw [List.any_cons, List.any_cons, RepK.any k r]
theorem RepK.app1 {G : Hp} {k : Key} {v : V} (q : Rep K G v d) : ∀ {kvs : List (Key × V)} {kds : List (Key × Da)}, RepK K G kvs kds → RepK K G (kvs ++ [(k, v)]) (kds ++ [(k, d)])
  | _, _, .nil => .cons q .nil
  | _, _, .cons h r => .cons h (RepK.app1 q r)
theorem RepK.ren {G : Hp} {k : Key} {v : V} (q : Rep K G v d) : ∀ {kvs : List (Key × V)} {kds : List (Key × Da)}, RepK K G kvs kds → RepK K G (kvs.map fun kv => if kv.1 = k then (kv.1, v) else kv) (kds.map fun kv => if kv.1 = k then (kv.1, d) else kv)
  | _, _, .nil => .nil
  | _, _, .cons (k := k0) h r => by
    rw [List.map_cons, List.map_cons]
    by_cases hk : k0 = k
    · rw [if_pos hk, if_pos hk]; exact .cons q (RepK.ren q r)
    · rw [if_neg hk, if_neg hk]; exact .cons h (RepK.ren q r)
theorem RepK.put {G : Hp} {kvs : List (Key × V)} {v : V} (h : RepK K G kvs kds) (k : Key) (r : Rep K G v d) : RepK K G (putK kvs k v) (putD kds k d) := by
  unfold putK putD
  rw [h.any k]
  by_cases hb : (kds.any fun kv => decide (kv.1 = k)) = true
  · rw [if_pos hb, if_pos hb]
    exact h.ren r
  · rw [if_neg hb, if_neg hb]
    exact h.app1 r
theorem std_dput {i : Nat} {k : Key} (hi : δ[i]? = some (.dct kds)) (hf : ∀ j ks, j ≠ i → δ[j]? ≠ some (.dct ks)) (hz : kds.length < 100000) (hk : Evd K tk δ (keyD k)) (hv : Evd K te δ d) (h : D.nx (δ.set i (.dct (putD kds k d)))) :
    Std K (sDPut (tVar i) tk te) δ D := fun bp tp Ge He bx G H σ E x er kn kr kb kc =>
  hv bp He bx σ G H x.le er _ fun v G1 H1 x1 r1 => by
    have er1 := er.lift x1
    obtain ⟨l, vs, e, a, b, c, r, n⟩ := er1.dctAt hi
    refine ⟨.ref l, e, hk bp He bx σ G1 H1 x1.le er1 _ fun w G2 H2 x2 r2 => ?_⟩
    have er2 := er1.lift x2
    obtain ⟨l', vs', e', a', b', c', r', n'⟩ := er2.dctAt hi
    rw [e] at e'
    cases e'
    have hk2 := r2.key
    have x12 := x1.trans x2
    have hl0 : He l = none := a'
    refine ⟨l, _, rfl, hk2 ▸ DPut.k (k := k) c' (len_lt (by have := r'.len; omega)), ?_⟩
    have lg : G2 l = none := b'
    have xm : Ext bp Ge He G2 (upd H2 l (.dK (putK vs' k v))) := (x.trans x12.none_to).mut hl0 lg
    refine kn bx G2 _ σ _ xm x12.gg ?_ h
    have hlen := (List.getElem?_eq_some_iff.mp hi).1
    refine ⟨by rw [List.length_set]; exact er2.len, fun j en hj => ?_, fun j k' ds1 es1 l1 ne h1 h2 h3 => ?_, er2.bxo, fun b0 hb => ⟨by rw [upd_ne (fun z => n' (by rw [hb, z]))]; exact (er2.bxt b0 hb).1, (er2.bxt b0 hb).2⟩, er2.bxp⟩
    · by_cases hij : i = j
      · subst hij
        rw [List.getElem?_set_self hlen] at hj
        cases hj
        rw [e]
        exact ⟨l, _, rfl, a', b', upd_same, r'.put k (r1.mono x2.gg), n'⟩
      · rw [List.getElem?_set_ne hij] at hj
        have z := er2.at_ j en hj
        cases en with
        | any => trivial
        | rep d => exact z
        | own ds1 =>
          obtain ⟨l1, vs1, e1, a1, b1, c1, r1, n1⟩ := z
          have ne : l1 ≠ l := fun y => by
            subst y
            rw [c'] at c1; cases c1
          exact ⟨l1, vs1, e1, a1, b1, by rw [upd_ne ne]; exact c1, r1, n1⟩
        | dct ds1 => exact absurd hj (hf j ds1 (fun z => hij z.symm))
        | box m =>
          obtain ⟨b0, c0, c1, c3, e1, e2, g, c4, r4⟩ := z
          have ne : b0 ≠ l := fun y => n' (by rw [e2, y])
          exact ⟨b0, c0, c1, c3, e1, e2, g, by rw [upd_ne ne]; exact c4, r4⟩
    · have f : ∀ (m : Nat) (ms : List Da), (δ.set i (En.dct (putD kds k d)))[m]? = some (En.own ms) → δ[m]? = some (En.own ms) := fun m ms hm => by
        by_cases him : i = m
        · subst him
          rw [List.getElem?_set_self hlen] at hm; cases hm
        · rwa [List.getElem?_set_ne him] at hm
      exact er2.sep j k' ds1 es1 l1 ne (f j ds1 h1) (f k' es1 h2) h3
/-- the dict is written no more -/
theorem std_frzD {i : Nat} (hi : δ[i]? = some (.dct kds)) (hf : ∀ j ks, j ≠ i → δ[j]? ≠ some (.dct ks)) (k : Std K ts (δ.set i (.rep (.dic kds))) D) : Std K (tFrzS ts) δ D := fun bp tp Ge He bx G H σ E x er kn kr kb kc => by
  obtain ⟨l, vs, e, a, b, c, r, n⟩ := er.dctAt hi
  refine ⟨l, vs, c, fun o => ?_⟩
  have x2 : Ext bp Ge He (upd G l (.frz o (.dK vs))) (upd H l (.frz o (.dK vs))) := (x.mut a b).known a b upd_same
  have s2 : Same G (upd G l (.frz o (.dK vs))) := same_known b
  have hlen := (List.getElem?_eq_some_iff.mp hi).1
  have hσ : σ.set i (some (.ref l)) = σ := by
    refine List.ext_getElem? fun k => ?_
    by_cases hk : i = k
    · subst hk
      rw [e, List.getElem?_set_self (List.getElem?_eq_some_iff.mp e).1]
    · rw [List.getElem?_set_ne hk]
  have er2 : ER K bp He bx (upd G l (.frz o (.dK vs))) (upd H l (.frz o (.dK vs))) σ (δ.set i (.rep (.dic kds))) := by
    refine ⟨by rw [List.length_set]; exact er.len, fun j en hj => ?_, fun j k' ds1 es1 l1 ne h1 h2 h3 => ?_, er.bxo, fun b0 hb => ⟨by rw [upd_ne (fun z => n (by rw [hb, z]))]; exact (er.bxt b0 hb).1, by rw [upd_ne (fun z => n (by rw [hb, z]))]; exact (er.bxt b0 hb).2⟩, er.bxp⟩
    · by_cases hij : i = j
      · subst hij
        rw [List.getElem?_set_self hlen] at hj
        cases hj
        rw [e]
        exact ⟨_, rfl, .dic upd_same (r.mono s2)⟩
      · rw [List.getElem?_set_ne hij] at hj
        have z := er.at_ j en hj
        cases en with
        | any => trivial
        | rep d =>
          obtain ⟨v, e, r⟩ := z
          exact ⟨v, e, r.mono s2⟩
        | own ds1 =>
          obtain ⟨l1, vs1, e1, a1, b1, c1, r1, n1⟩ := z
          have ne : l1 ≠ l := fun y => by
            subst y
            rw [c] at c1; cases c1
          exact ⟨l1, vs1, e1, a1, by rw [upd_ne ne]; exact b1, by rw [upd_ne ne]; exact c1, r1.mono s2, n1⟩
        | dct ds1 => exact absurd hj (hf j ds1 (fun z => hij z.symm))
        | box m =>
          obtain ⟨b0, c0, c1, c3, e1, e2, g, c4, r4⟩ := z
          have ne : b0 ≠ l := fun y => n (by rw [e2, y])
          exact ⟨b0, c0, c1, c3, e1, e2, by rw [upd_ne ne]; exact g, by rw [upd_ne ne]; exact c4, r4⟩
    · have f : ∀ (m : Nat) (ms : List Da), (δ.set i (En.rep (.dic kds)))[m]? = some (En.own ms) → δ[m]? = some (En.own ms) := fun m ms hm => by
        by_cases him : i = m
        · subst him
          rw [List.getElem?_set_self hlen] at hm; cases hm
        · rwa [List.getElem?_set_ne him] at hm
      exact er.sep j k' ds1 es1 l1 ne (f j ds1 h1) (f k' es1 h2) h3
  exact k bp tp Ge He bx _ _ σ E x2 er2 (kn.lift s2) (kr.lift s2) (kb.lift s2) (kc.lift s2)
/-- xs.extend(e), e new -/
theorem std_ext {i : Nat} (h : δ[i]? = some (.own ds)) (he : EvO K te δ es) (hz : ds.length + es.length ≤ 100000) (k : D.nx (δ.set i (.own (ds ++ es)))) : Std K (tDrop (tBM K "list" rExtend (tVar i) (tCons te tNil))) δ D := fun bp tp Ge He bx G H σ E x er kn kr kb kc => by
  obtain ⟨l, vs, e, a, b, c, r, n⟩ := er.ownAt h
  refine ⟨.ref l, e, .inl ⟨rfl, vs, SqL.of c⟩, he bp He bx σ G H x.le er _ fun m ws G1 H1 x1 n1 n2 n3 r1 => ?_⟩
  have er1 := er.lift x1
  have c1 : H1 l = some (.lst vs) := x1.hh l _ (fun z => nomatch z) c
  have b1 : G1 l = none := (x1.gs l (by rw [c]; exact fun z => nomatch z)).trans b
  refine ⟨l, m, vs, ws, rfl, rfl, c1, n3, by rw [r.len, r1.len]; exact len_line hz, ?_⟩
  exact kn bx G1 _ σ _ ((x.trans x1.none_to).mut a b1) x1.gg (er1.mutOwn h e ((r.mono x1.gg).app r1)) k
end
theorem pt_if {tt : TT} {t1 t2 : TS} {D : Ends} {σ : L2.St} {H : Hp} (h : tt σ H (fun b H1 => if b = true then t1 D σ H1 else t2 D σ H1)) : tIfS tt t1 t2 D σ H := h
theorem pt_seq {t u : TS} {D : Ends} {σ : L2.St} {H : Hp} (h : t { D with nx := u D } σ H) : tSeq t u D σ H := h
theorem pt_nx {D : Ends} {σ : L2.St} {H : Hp} (h : D.nx σ H) : tNext D σ H := h
theorem pt_nxs {u : TS} {D D0 : Ends} {σ : L2.St} {H : Hp} (h : u D0 σ H) : tNext { D with nx := u D0 } σ H := h
theorem pt_asg {te : TE} {g : TG} {D : Ends} {σ : L2.St} {H : Hp} (h : te σ H fun x H1 => g x σ H1 D.nx) : tAsg te g D σ H := h
end R
set_option maxHeartbeats 4123456
/-! R12: comprehensions of two fors, tuples cut and joined. -/
namespace R
open PySem L2
section
variable {K : PySem.W.Frag} {δ δ1 δ2 : List En} {ta tb tc te tx tl : TE} {d d0 d1 d2 d3 : Da} {ds es : List Da} {g g1 : TG}
def plainE (δ : List En) : Prop := ∀ en ∈ δ, en = En.any ∨ ∃ d, en = En.rep d
theorem ER.mix {bp bx : Option Addr} {He G H G' H' : Hp} {σ σ0 : L2.St} {δ0 : List En} (E : ER K bp He bx G H σ δ2) (B : ER K bp He bx G' H' σ0 δ0) (s : Same G G') (hp : plainE δ2) : ER K bp He bx G' H' σ δ2 := by
  refine ⟨E.len, fun i en e => ?_, fun i j ds es l ne h1 h2 h3 => ?_, B.bxo, B.bxt, B.bxp⟩
  · rcases hp en (List.mem_of_getElem? e) with rfl | ⟨d, rfl⟩
    · trivial
    · obtain ⟨v, e1, r⟩ := E.at_ i _ e
      exact ⟨v, e1, r.mono s⟩
  · rcases hp _ (List.mem_of_getElem? h1) with z | ⟨d, z⟩ <;> cases z
/-- [te for g in wi for g1 in wi1] -/
theorem evo_lc2 {wi wi1 : TI} {vs vs1 js js1 : List Nat} {F : Da → List Da} {f : Da → Da → Da} (hs : Srcd K wi δ ds) (hj : ∀ j ∈ js, j ∈ vs) (hj1 : ∀ j ∈ js1, j ∈ vs1) (hn : (ds.flatMap fun d => (F d).map (f d)).length ≤ 50000)
    (h : ∀ (i : Nat) d, ds[i]? = some d → ∃ δ2, plainE δ2 ∧ Tgd K g js d (wipeE δ vs) δ2 ∧ Srcd K wi1 δ2 (F d) ∧ ∀ (j : Nat) e, (F d)[j]? = some e → ∃ δ3, Tgd K g1 js1 e (wipeE δ2 vs1) δ3 ∧ Evd K te δ3 (f d e)) :
    EvO K (tLc2 wi g tYes wi1 g1 tYes te vs vs1) δ (ds.flatMap fun d => (F d).map (f d)) := by
  intro bp He bx σ G H le E Q q
  refine hs bp He bx σ G H le E _ fun J G1 H1 x1 w D hD => ?_
  have E1 := E.lift x1
  refine ⟨fun i m H' => m = ds.length - i ∧ i ≤ ds.length ∧ ∃ G' acc, Ext none G1 H1 G' H' ∧ G' D = none ∧ H' D = some (.lst acc) ∧ Reps K G' acc ((ds.take i).flatMap fun d => (F d).map (f d)),
    ⟨ds.length, by simp, Nat.zero_le _, G1, [], Ext.own x1.le hD, x1.le.free hD, upd_same, .nil⟩, ?_⟩
  rintro i m H2 ⟨rfl, hi, G', acc, x2, n2, n3, r2⟩
  by_cases hlt : i < ds.length
  · refine .inr ⟨w.goes i H2 hlt (x2.gg.trans x2.le), fun H' => ∃ G' acc, Ext none G1 H1 G' H' ∧ G' D = none ∧ H' D = some (.lst acc) ∧ Reps K G' acc ((ds.take (i + 1)).flatMap fun d => (F d).map (f d)),
      fun H' p => ⟨ds.length - (i + 1), by omega, rfl, hlt, p⟩, fun x H3 y => ?_⟩
    obtain ⟨G3, d, e, x3, r3⟩ := w.yields i H2 x H3 hlt (x2.gg.trans x2.le) y G' x2.gg x2.le
    have x13 := x2.trans x3
    have hDn : H2 D ≠ none := by rw [n3]; exact fun z => nomatch z
    have n4 : G3 D = none := (x3.gs D hDn).trans n2
    have n5 : H3 D = some (.lst acc) := x3.hh D _ (fun z => nomatch z) n3
    obtain ⟨δ2, hp2, hg, hs1, hin⟩ := h i d e
    have et : ds.take (i + 1) = ds.take i ++ [d] := by rw [List.take_add_one, e]; rfl
    have etot : (ds.take (i + 1)).flatMap (fun d => (F d).map (f d)) = (ds.take i).flatMap (fun d => (F d).map (f d)) ++ (F d).map (f d) := by
      rw [et, List.flatMap_append]
      congr 1
      show (F d).map (f d) ++ [] = _
      rw [List.append_nil]
    have hbound : ((ds.take (i + 1)).flatMap fun d => (F d).map (f d)).length ≤ 50000 := by
      have e2 : ds.flatMap (fun d => (F d).map (f d)) = (ds.take (i + 1)).flatMap (fun d => (F d).map (f d)) ++ (ds.drop (i + 1)).flatMap (fun d => (F d).map (f d)) := by rw [← List.flatMap_append, List.take_append_drop]
      rw [e2, List.length_append] at hn
      omega
    refine hg bp He bx (wipe σ vs) G3 H3 x x3.le ((E1.lift x13).wipe vs) r3 _ fun σ' E' l' k' => ⟨wipe_eq hj l' k', ?_⟩
    unfold tYes
    dsimp only
    rw [if_pos rfl]
    refine hs1 bp He bx σ' G3 H3 x3.le E' _ fun J1 G4 H4 x4 w1 => ?_
    have m5 : H3 D ≠ none := by rw [n5]; exact fun z => nomatch z
    refine ⟨fun j k H' => k = (F d).length - j ∧ j ≤ (F d).length ∧ ∃ G' acc, Ext none G1 H1 G' H' ∧ Same G4 G' ∧ G' D = none ∧ H' D = some (.lst acc) ∧ Reps K G' acc ((ds.take i).flatMap (fun d => (F d).map (f d)) ++ ((F d).take j).map (f d)),
      ⟨(F d).length, by simp, Nat.zero_le _, G4, acc, x13.trans x4, Same.refl _, (x4.gs D m5).trans n4, x4.hh D _ (fun z => nomatch z) n5, by rw [List.take_zero, List.map_nil, List.append_nil]; exact r2.mono (x3.trans x4).gg⟩, ?_⟩
    rintro j k H5 ⟨rfl, hjl, G5, acc5, x5, s5, n6, n7, r5⟩
    by_cases hjlt : j < (F d).length
    · refine .inr ⟨w1.goes j H5 hjlt (s5.trans x5.le), fun H' => ∃ G' acc, Ext none G1 H1 G' H' ∧ Same G4 G' ∧ G' D = none ∧ H' D = some (.lst acc) ∧ Reps K G' acc ((ds.take i).flatMap (fun d => (F d).map (f d)) ++ ((F d).take (j + 1)).map (f d)),
        fun H' p => ⟨(F d).length - (j + 1), by omega, rfl, hjlt, p⟩, fun z H6 y6 => ?_⟩
      obtain ⟨G6, e6, ee, x6, r6⟩ := w1.yields j H5 z H6 hjlt (s5.trans x5.le) y6 G5 s5 x5.le
      have x16 := x5.trans x6
      have hDn5 : H5 D ≠ none := by rw [n7]; exact fun z => nomatch z
      have n8 : G6 D = none := (x6.gs D hDn5).trans n6
      have n9 : H6 D = some (.lst acc5) := x6.hh D _ (fun z => nomatch z) n7
      obtain ⟨δ3, hg1, he⟩ := hin j e6 ee
      have E6 : ER K bp He bx G6 H6 σ' δ2 := E'.mix (E1.lift x16) (x4.gg.trans (s5.trans x6.gg)) hp2
      refine hg1 bp He bx (wipe σ' vs1) G6 H6 z x6.le (E6.wipe vs1) r6 _ fun σ3 E3 l3 k3 => ⟨wipe_eq hj1 l3 k3, ?_⟩
      dsimp only
      rw [if_pos rfl]
      refine he bp He bx σ3 G6 H6 x6.le E3 _ fun v G7 H7 x7 r7 => ?_
      have m6 : H6 D ≠ none := by rw [n9]; exact fun z => nomatch z
      have ej : ((F d).take (j + 1)).map (f d) = ((F d).take j).map (f d) ++ [f d e6] := by
        rw [List.take_add_one, ee, List.map_append]; rfl
      have n10 : G7 D = none := (x7.gs D m6).trans n8
      refine ⟨acc5, x7.hh D _ (fun z => nomatch z) n9, len_lt ?_, G7, acc5 ++ [v], (x16.trans x7).mut hD n10, (s5.trans x6.gg).trans x7.gg, n10, upd_same, ?_⟩
      · have l1 := r5.len
        rw [List.length_append, List.length_map, List.length_take] at l1
        rw [etot, List.length_append, List.length_map] at hbound
        omega
      · rw [ej, ← List.append_assoc]
        exact (r5.mono (x6.trans x7).gg).app (.cons r7 .nil)
    · have ej : j = (F d).length := by omega
      subst ej
      refine .inl ⟨w1.stops H5 (s5.trans x5.le), G5, acc5, x5, n6, n7, ?_⟩
      rw [List.take_length] at r5
      rw [etot]
      exact r5
  · have ei : i = ds.length := by omega
    subst ei
    rw [List.take_length] at r2
    exact .inl ⟨w.stops H2 (x2.gg.trans x2.le), q D acc G' H2 (x1.trans x2) (x1.free hD) n2 n3 r2⟩
/-- a tuple cut -/
theorem evd_slT {tlo thi : TO} {lo hi : Option Int} (h : Evd K te δ (.tup ds)) (h1 : Ovd K tlo δ lo) (h2 : Ovd K thi δ hi) (hw : ¬ (HT.sIx ds.length 0 lo = 0 ∧ HT.sIx ds.length ds.length hi = ds.length)) : Evd K (tSl (rSlT K) te tlo thi) δ (.tup (cutD ds lo hi)) :=
  fun bp He bx σ G H le E Q q => h bp He bx σ G H le E _ fun v G1 H1 x1 r1 => h1 bp He bx σ G1 H1 x1.le (E.lift x1) _ fun G2 H2 x2 => h2 bp He bx σ G2 H2 x2.le (E.lift (x1.trans x2)) _ fun G3 H3 x3 => by
    have x := (x1.trans x2).trans x3
    have r3 := r1.mono (x2.trans x3).gg
    cases r3 with
    | tup hx rs => exact ⟨_, _, rfl, sqT_same x3.le hx, by rw [rs.len]; exact hw, fun p hp => q (.ref p) _ _ (x.trans (Ext.new x3.le hp)) (.tup (SqT.of upd_same) (rs.cut.mono (same_known (x3.le.free hp))))⟩
/-- tuples joined -/
theorem op2_catT (h0 : ds ≠ []) (h : ds.length + es.length ≤ 100000) : Op2 K (rCatT K) (.tup ds) (.tup es) (.tup (ds ++ es)) := fun v1 v2 G H le r1 r2 Q q => by
  cases r1 with
  | tup h1 s1 =>
    cases r2 with
    | tup h2 s2 =>
      refine ⟨_, _, _, _, rfl, rfl, sqT_same le h1, sqT_same le h2, fun z => ?_, by rw [s1.len, s2.len]; exact len_line h, fun z => ?_, fun _ p hp => q (.ref p) _ _ (Ext.new le hp) (.tup (SqT.of upd_same) ((s1.app s2).mono (same_known (le.free hp))))⟩
      · have := s1.len
        rw [z] at this
        exact h0 (List.eq_nil_of_length_eq_zero this.symm)
      · subst z
        cases s2
        rw [List.append_nil] at q
        exact q _ G H (Ext.refl le) (.tup h1 s1)
end
end R
set_option maxHeartbeats 4123456
/-! R13: tuples of texts that the top has made; requests as data. -/
namespace R
open PySem L2
section
variable {K : PySem.W.Frag} {δ : List En} {d d1 d2 : Da} {ds : List Da}
def CstT (K : PySem.W.Frag) (a : Addr) (zs : List Str) : Prop := ∃ (o : Obj) (its : Array Value) (n : Nat), K.lookup a = some o ∧ o.cls = .type "tuple" ∧ o.data = .seq its n ∧ its.size ≤ sizeLine ∧ Vals (zs.map V.str) its.toList
theorem reps_strs {G : Hp} : ∀ zs : List Str, Reps K G (zs.map V.str) (zs.map Da.str)
  | [] => .nil
  | z :: zs => .cons (.str z) (reps_strs zs)
theorem evd_cst {a : Addr} {zs : List Str} (h : CstT K a zs) : Evd K (tC (.ref a)) δ (.tup (zs.map .str)) := evd_c fun G => .tup (.inr h) (reps_strs zs)
def strsB : List Str → List Value → Bool
  | [], [] => true
  | z :: zs, .str y _ :: vs => decide (y = z) && strsB zs vs
  | _, _ => false
theorem strsB_ok : ∀ {zs : List Str} {vs : List Value}, strsB zs vs = true → Vals (zs.map V.str) vs
  | [], [], _ => .nil
  | z :: zs, [], h => by cases h
  | [], v :: vs, h => by cases h
  | z :: zs, v :: vs, h => by
    cases v with
    | str y t =>
      obtain ⟨h1, h2⟩ := Bool.and_eq_true_iff.mp (show (decide (y = z) && strsB zs vs) = true from h)
      have e := of_decide_eq_true h1
      subst e
      exact .cons ⟨t, rfl⟩ (strsB_ok h2)
    | _ => cases h
def cstB (K : PySem.W.Frag) (a : Addr) (zs : List Str) : Bool := match K.lookup a with
  | some o => decide (o.cls = .type "tuple") && (match o.data with
    | .seq its _ => strsB zs its.toList && decide (its.size ≤ 1000)
    | _ => false)
  | none => false
theorem cstB_ok {a : Addr} {zs : List Str} (h : cstB K a zs = true) : CstT K a zs := by
  unfold cstB at h
  split at h
  · rename_i o ho
    obtain ⟨h1, h⟩ := Bool.and_eq_true_iff.mp h
    split at h
    · rename_i its n hd
      obtain ⟨h2, h3⟩ := Bool.and_eq_true_iff.mp h
      exact ⟨o, its, n, ho, of_decide_eq_true h1, hd, Nat.le_trans (of_decide_eq_true h3) (by rw [PySem.sizeLine_eq]; decide), strsB_ok h2⟩
    · cases h
  · cases h
/-- a text in such a tuple -/
theorem op2_inTs {neg : Bool} {i : Str} {ns : List Str} : Op2 K (rIn K neg) (.str i) (.tup (ns.map .str)) (.bl (if neg then !decide (i ∈ ns) else decide (i ∈ ns))) := by
  have h := op2_inT (K := K) (neg := neg) (d := .str i) rfl (flat_strs ns)
  rw [inD_str] at h
  exact h
end
/-! ### requests -/
inductive Req where
  | opn (h : Nat) | cls (h : Nat) | all | non | not (r : Req) | and (a b : Req) | or (a b : Req)
namespace Req
def da : Req → Da
  | .opn h => .tup [.str "open", .int (h : Int)]
  | .cls h => .tup [.str "closed", .int (h : Int)]
  | .all => .tup [.str "all"]
  | .non => .tup [.str "none"]
  | .not r => .tup [.str "not", da r]
  | .and a b => .tup [.str "and", da a, da b]
  | .or a b => .tup [.str "or", da a, da b]
def dep : Req → Nat
  | .opn _ => 1 | .cls _ => 1 | .all => 1 | .non => 1
  | .not r => dep r + 1
  | .and a b => max (dep a) (dep b) + 1
  | .or a b => max (dep a) (dep b) + 1
def size : Req → Nat
  | .opn _ => 1 | .cls _ => 1 | .all => 1 | .non => 1
  | .not r => size r + 1
  | .and a b => size a + size b + 1
  | .or a b => size a + size b + 1
def holes : Req → List Nat
  | .opn h => [h] | .cls h => [h] | .all => [] | .non => []
  | .not r => holes r
  | .and a b => holes a ++ holes b
  | .or a b => holes a ++ holes b
def parts : Req → List Req
  | .not r => [r]
  | .and a b => [a, b]
  | .or a b => [a, b]
  | _ => []
/-- does the row fit (its signs) -/
def sem (row : List Nat) : Req → Bool
  | .opn h => row[h]? == some 118
  | .cls h => !(row[h]? == some 118)
  | .all => true
  | .non => false
  | .not r => !sem row r
  | .and a b => sem row a && sem row b
  | .or a b => sem row a || sem row b
end Req
end R
set_option maxHeartbeats 4123456
/-! R14: comprehensions over a list that is a picture of another. -/
namespace R
open PySem L2
section
variable {K : PySem.W.Frag} {δ δ1 δ2 : List En} {ta tb tc te tx tl : TE} {d d0 d1 d2 d3 : Da} {ds es : List Da} {g g1 : TG} {t : TT}
/-- [te for g in wi if t], the walked list a picture -/
theorem evo_lcM {α : Type} {xs : List α} {φ f : α → Da} {wi : TI} {vs js : List Nat} {keep : α → Bool} (hs : Srcd K wi δ (xs.map φ)) (hj : ∀ j ∈ js, j ∈ vs) (hn : xs.length ≤ 50000)
    (h : ∀ (i : Nat) d, xs[i]? = some d → ∃ δ2, Tgd K g js (φ d) (wipeE δ vs) δ2 ∧ Tvd K t δ2 (keep d) ∧ (keep d = true → Evd K te δ2 (f d))) : EvO K (tLc wi g t te vs) δ ((xs.filter keep).map f) := by
  intro bp He bx σ G H le E Q q
  refine hs bp He bx σ G H le E _ fun J G1 H1 x1 w D hD => ?_
  have E1 := E.lift x1
  refine lc_it w (Pv := fun i H' => ∃ G' acc, Ext none G1 H1 G' H' ∧ G' D = none ∧ H' D = some (.lst acc) ∧ Reps K G' acc (((xs.take i).filter keep).map f))
    ⟨G1, [], Ext.own x1.le hD, x1.le.free hD, upd_same, .nil⟩ (fun i H' _ ⟨G', acc, x, _⟩ => x.gg.trans x.le) ?_ ?_
  · rintro i x H2 H3 hi ⟨G', acc, x2, n2, n3, r2⟩ y
    obtain ⟨G3, d0, e0, x3, r3⟩ := y G' x2.gg x2.le
    rw [List.getElem?_map] at e0
    obtain ⟨d, e, rfl⟩ := Option.map_eq_some_iff.mp e0
    have x13 := x2.trans x3
    have hDn : H2 D ≠ none := by rw [n3]; exact fun z => nomatch z
    have n4 : G3 D = none := (x3.gs D hDn).trans n2
    have n5 : H3 D = some (.lst acc) := x3.hh D _ (fun z => nomatch z) n3
    obtain ⟨δ2, hg, ht, he⟩ := h i d e
    refine hg bp He bx (wipe σ vs) G3 H3 x x3.le ((E1.lift x13).wipe vs) r3 _ fun σ' E' l' k' => ⟨wipe_eq hj l' k', ?_⟩
    have et : (xs.take (i + 1)) = xs.take i ++ [d] := by rw [List.take_add_one, e]; rfl
    refine ht bp He bx σ' G3 H3 x3.le E' _ fun G4 H4 x4 => ?_
    have m5 : H3 D ≠ none := by rw [n5]; exact fun z => nomatch z
    cases hk : keep d with
    | true =>
      refine iteT (he hk bp He bx σ' G4 H4 x4.le (E'.lift x4) _ fun v G5 H5 x5 r5 => ?_)
      have x35 := x4.trans x5
      refine ⟨acc, x35.hh D _ (fun z => nomatch z) n5, len_lt ?_, G5, acc ++ [v], (x13.trans x35).mut hD ((x35.gs D m5).trans n4), (x35.gs D m5).trans n4, upd_same, ?_⟩
      · have hlen := r2.len
        rw [List.length_map] at hlen
        have := List.length_filter_le keep (xs.take i)
        have := List.length_take_le i xs
        have : (xs.take i).length ≤ xs.length := by rw [List.length_take]; omega
        omega
      · rw [et, List.filter_append, List.map_append, List.filter_cons, if_pos hk]
        exact (r2.mono (x3.trans x35).gg).app (.cons r5 .nil)
    | false =>
      refine iteF ⟨G4, acc, x13.trans x4, (x4.gs D m5).trans n4, x4.hh D _ (fun z => nomatch z) n5, ?_⟩
      rw [et, List.filter_append, List.map_append, List.filter_cons, if_neg (by rw [hk]; decide)]
      rw [List.filter_nil, List.map_nil, List.append_nil]
      exact r2.mono (x3.trans x4).gg
  · rintro H' ⟨G', acc, x2, n2, n3, r2⟩
    rw [List.length_map, List.take_length] at r2
    exact q D acc G' H' (x1.trans x2) (x1.free hD) n2 n3 r2

theorem evo_lcN {α : Type} {xs : List α} {φ f : α → Da} {wi : TI} {vs js : List Nat} (hs : Srcd K wi δ (xs.map φ)) (hj : ∀ j ∈ js, j ∈ vs) (hn : xs.length ≤ 50000)
    (h : ∀ (i : Nat) d, xs[i]? = some d → ∃ δ2, Tgd K g js (φ d) (wipeE δ vs) δ2 ∧ Evd K te δ2 (f d)) : EvO K (tLc wi g tYes te vs) δ (xs.map f) := by
  have q := evo_lcM (K := K) (δ := δ) (te := te) (g := g) (t := tYes) (keep := fun _ => true) (f := f) hs hj hn fun i d e => by
    obtain ⟨δ2, h1, h2⟩ := h i d e
    exact ⟨δ2, h1, tvd_yes, fun _ => h2⟩
  rw [List.filter_eq_self.mpr (fun _ _ => rfl)] at q
  exact q
end
end R
set_option maxHeartbeats 4123456
/-! R15: is True, enumerate of lists, ranges with a step, dict literals read, choices that draw. -/
namespace R
open PySem L2
/-- is True, is not False, .. -/
def rIsB (b neg : Bool) : R2 := fun x y H Q => y = .bl b ∧ ((∃ c, x = .bl c ∧ Q (.bl (xor neg (decide (c = b)))) H) ∨ (∃ i, x = .int i ∧ Q (.bl neg) H))
theorem op_isB {X : Cx} {b : Bool} : OpR X (compareOp .Is) (rIsB b false) := by
  intro pins s σ H x y v u Q I rx ry h
  obtain ⟨rfl, h⟩ := h
  cases ry
  rcases h with ⟨c, rfl, q⟩ | ⟨i, rfl, q⟩
  · cases rx
    exact PySem.wpAny_is_plain rfl (fin_bl I q (by cases c <;> cases b <;> rfl))
  · obtain ⟨t, rfl⟩ := rx
    exact PySem.wpAny_is_plain rfl (fin_bl I q rfl)
theorem op_isntB {X : Cx} {b : Bool} : OpR X (compareOp .IsNot) (rIsB b true) := by
  intro pins s σ H x y v u Q I rx ry h
  obtain ⟨rfl, h⟩ := h
  cases ry
  rcases h with ⟨c, rfl, q⟩ | ⟨i, rfl, q⟩
  · cases rx
    exact PySem.wpAny_isNot_plain rfl (fin_bl I q (by cases c <;> cases b <;> rfl))
  · obtain ⟨t, rfl⟩ := rx
    exact PySem.wpAny_isNot_plain rfl (fin_bl I q rfl)
section
variable {K : PySem.W.Frag} {δ δ1 δ2 : List En} {ta tb tc te tx tl : TE} {d d0 d1 d2 d3 : Da} {ds es : List Da} {g g1 : TG} {t : TT} {c : Nat} {P : Da → Prop} {D : Po}
theorem op2_isBB {b n x : Bool} : Op2 K (rIsB b n) (.bl x) (.bl b) (.bl (xor n (decide (x = b)))) := fun v1 v2 G H le r1 r2 Q q =>
  ⟨r2.blI, .inl ⟨x, r1.blI, q _ G H (Ext.refl le) (.bl _)⟩⟩
theorem op2_isBI {b n : Bool} {i : Int} : Op2 K (rIsB b n) (.int i) (.bl b) (.bl n) := fun v1 v2 G H le r1 r2 Q q =>
  ⟨r2.blI, .inr ⟨i, r1.intI, q _ G H (Ext.refl le) (.bl _)⟩⟩
/-! enumerate(list) -/
def enumL (ds : List Da) : List Da := (List.range ds.length).map fun i => .tup [.int (i : Nat), (ds[i]?).getD .non]
theorem enumL_len (ds : List Da) : (enumL ds).length = ds.length := by unfold enumL; rw [List.length_map, List.length_range]
theorem enumL_get {ds : List Da} {i : Nat} {d : Da} (h : ds[i]? = some d) : (enumL ds)[i]? = some (.tup [.int (i : Nat), d]) := by
  have hi := (List.getElem?_eq_some_iff.mp h).1
  unfold enumL
  rw [List.getElem?_map, List.getElem?_range hi]
  show some (Da.tup [.int (i : Nat), (ds[i]?).getD .non]) = _
  rw [h]; rfl
theorem enumL_at {ds : List Da} {i : Nat} {d : Da} (h : (enumL ds)[i]? = some d) : ∃ e, ds[i]? = some e ∧ d = .tup [.int (i : Nat), e] := by
  have hi := (List.getElem?_eq_some_iff.mp h).1
  rw [enumL_len] at hi
  have h3 := List.getElem?_eq_getElem hi
  rw [enumL_get h3] at h
  exact ⟨_, h3, (Option.some.inj h).symm⟩
theorem src_enumL (h : Evd K tl δ (.lst ds)) : Srcd K (iEnum K (tCons tl tNil)) δ (enumL ds) := fun bp He bx σ G H le E R q =>
  h bp He bx σ G H le E _ fun v G1 H1 x1 r1 => by
    cases r1 with
    | @lst a xs _ hx rs =>
      refine ⟨a, xs, rfl, SqL.of (x1.le _ _ hx), q _ G1 H1 x1 ?_⟩
      rw [enumL_len, ← rs.len]
      refine (walk_enum (K := K) (a := a) (xs := xs)).mono (fun H2 s => SqL.of (s _ _ hx)) fun i H2 x H3 hi s y => ?_
      obtain ⟨T, y1, y2, rfl, hT, rfl, e1, e2⟩ := y
      cases e1
      obtain ⟨d, e3, r3⟩ := rs.getV e2
      exact fun G2 s1 s2 => ⟨_, _, enumL_get e3, Ext.new s2 hT, .tup (SqT.of upd_same) (.cons (.int _) (.cons (r3.mono (s1.trans (same_known (s2.free hT)))) .nil))⟩
theorem enumL_range (n : Nat) (g : Nat → Da) : enumL ((List.range n).map g) = (List.range n).map fun i => .tup [.int (i : Nat), g i] := by
  refine List.ext_getElem? fun i => ?_
  by_cases hi : i < n
  · rw [enumL_get (d := g i) (by rw [List.getElem?_map, List.getElem?_range hi]; rfl), List.getElem?_map, List.getElem?_range hi]; rfl
  · rw [List.getElem?_eq_none (by rw [enumL_len, List.length_map, List.length_range]; omega), List.getElem?_eq_none (by rw [List.length_map, List.length_range]; omega)]
theorem src_enumR {n : Nat} {f : Nat → Da} (h : Evd K tl δ (.lst ((List.range n).map f))) : Srcd K (iEnum K (tCons tl tNil)) δ ((List.range n).map fun i => .tup [.int (i : Nat), f i]) := by
  have q := src_enumL h
  rwa [enumL_range] at q
/-! range with a step -/
def srng (lo st : Int) (n : Nat) : List Da := (List.range n).map fun (i : Nat) => .int (lo + (i : Int) * st)
theorem srng_len {lo st : Int} {n : Nat} : (srng lo st n).length = n := by unfold srng; rw [List.length_map, List.length_range]
theorem srng_get {lo st : Int} {n i : Nat} (h : i < n) : (srng lo st n)[i]? = some (.int (lo + (i : Int) * st)) := by
  unfold srng
  rw [List.getElem?_map, List.getElem?_range h]; rfl
theorem srng_at {lo st : Int} {n i : Nat} {d : Da} (h : (srng lo st n)[i]? = some d) : i < n ∧ d = .int (lo + (i : Int) * st) := by
  have hi : i < n := by
    have := (List.getElem?_eq_some_iff.mp h).1
    rwa [srng_len] at this
  rw [srng_get hi] at h
  exact ⟨hi, (Option.some.inj h).symm⟩
theorem walk_srng {lo st : Int} {n : Nat} {G1 : Hp} : Walk (Itc lo st n) (srng lo st n).length (fun H2 => Same G1 H2) (YD K G1 (srng lo st n)) := by
  have w := (walk_rangeC (lo := lo) (c := st) (n := n)).mono (G' := fun H2 => Same G1 H2) (Y' := YD K G1 (srng lo st n)) (fun _ _ => trivial) fun i H2 x H3 hi s y => by
    obtain ⟨rfl, rfl⟩ := y
    exact fun G2 s1 s2 => ⟨G2, _, srng_get hi, Ext.refl s2, .int _⟩
  rw [srng_len]
  exact w
theorem src_rng3 {ta : TA} {m n st : Int} {k : Nat} (h : EvdA K ta δ [.int m, .int n, .int st]) (hk : RgC m n st k) : Srcd K (iRng3 ta) δ (srng m st k) := fun bp He bx σ G H le E R q =>
  h bp He bx σ G H le E _ fun vs G1 H1 x1 r1 => by
    cases r1 with
    | cons r r' =>
      cases r' with
      | cons r2 r' =>
        cases r' with
        | cons r3 r' =>
          cases r'
          rw [r.intI, r2.intI, r3.intI]
          exact ⟨m, n, st, k, rfl, hk, q _ G1 H1 x1 walk_srng⟩
/-- a dict literal of two entries, read at once -/
theorem upd_upd {H : Hp} {p : Addr} {o1 o2 : HO} : upd (upd H p o1) p o2 = upd H p o2 := by
  funext b
  by_cases hb : b = p
  · rw [hb, upd_same, upd_same]
  · rw [upd_ne hb, upd_ne hb, upd_ne hb]
theorem evd_disp2 {a b k : Int} {x y z : Str} (h : Evd K tb δ (.int k)) (hab : a ≠ b) (hz : (k = a ∧ z = x) ∨ (k = b ∧ z = y)) :
    Evd K (tDGet (tDisp [((tC (.int a)), (tC (.str x))), ((tC (.int b)), (tC (.str y)))]) tb) δ (.str z) := fun bp He bx σ G H le E Q q => by
  intro p hp
  have ne : ¬ (Sum.inl a : Key) = Sum.inl b := fun z => hab (Sum.inl.inj z)
  have em : mergeK [] [((Sum.inl a : Key), V.str x), (Sum.inl b, .str y)] = [((Sum.inl a : Key), V.str x), (Sum.inl b, .str y)] := by
    show putK [((Sum.inl a : Key), V.str x)] (Sum.inl b) (.str y) = _
    unfold putK
    rw [if_neg]
    · rfl
    · rw [List.any_cons, List.any_nil, decide_eq_false ne]; decide
  refine ⟨upd_same, [((Sum.inl a : Key), V.str x), (Sum.inl b, .str y)], rfl, Nat.le_add_left 2 13, ?_⟩
  rw [em, upd_upd]
  have x1 : Ext none G H G (upd H p (.dK [((Sum.inl a : Key), V.str x), (Sum.inl b, .str y)])) := Ext.own le hp
  refine h bp He bx σ G _ x1.le (E.lift x1) _ fun v G2 H2 x2 r2 => ?_
  rw [r2.intI]
  have hd : H2 p = some (.dK [((Sum.inl a : Key), V.str x), (Sum.inl b, .str y)]) := x2.hh p _ (fun z => nomatch z) upd_same
  refine ⟨p, .str z, rfl, .inl ⟨_, Sum.inl k, .inl hd, rfl, ?_⟩, q _ G2 H2 (x1.trans x2) (.str z)⟩
  rcases hz with ⟨rfl, rfl⟩ | ⟨rfl, rfl⟩
  · exact Eq.symm (show valV [((Sum.inl k : Key), V.str z), (Sum.inl b, .str y)] (Sum.inl k) = some (.str z) from valV_pos rfl)
  · exact Eq.symm (show valV [((Sum.inl a : Key), V.str x), (Sum.inl k, .str z)] (Sum.inl k) = some (.str z) from (valV_neg ne).trans (valV_pos rfl))
/-! choices that draw -/
theorem eve_if {b : Bool} (h : Tvd K t δ b) (h1 : b = true → Eve K ta δ c P) (h2 : b = false → Eve K tb δ c P) : Eve K (tIf t ta tb) δ c P := fun bp He bx σ G H le E Q q =>
  h bp He bx σ G H le E _ fun G1 H1 x1 => by
    cases b with
    | true => exact iteT (h1 rfl bp He bx σ G1 H1 x1.le (E.lift x1) _ fun v d G2 H2 x2 b2 r2 p2 => q v d G2 H2 (x1.none_to.trans x2) (((x1.boxStep 0).trans b2).mono (by omega)) r2 p2)
    | false => exact iteF (h2 rfl bp He bx σ G1 H1 x1.le (E.lift x1) _ fun v d G2 H2 x2 b2 r2 p2 => q v d G2 H2 (x1.none_to.trans x2) (((x1.boxStep 0).trans b2).mono (by omega)) r2 p2)
theorem tve_test {PB : Bool → Prop} (h : Eve K te δ c P) (hP : ∀ d, P d → ∃ b, d = .bl b ∧ PB b) : Tve K (tTest te) δ c PB := fun bp He bx σ G H le E Q q =>
  h bp He bx σ G H le E _ fun v d G1 H1 x1 b1 r1 p1 => by
    obtain ⟨b, rfl, pb⟩ := hP d p1
    exact ⟨b, r1.blI, q b G1 H1 x1 b1 pb⟩
/-- xs.extend(e), e known -/
theorem std_extD {i : Nat} (h : δ[i]? = some (.own ds)) (he : Evd K te δ (.lst es)) (hz : ds.length + es.length ≤ 100000) (k : D.nx (δ.set i (.own (ds ++ es)))) : Std K (tDrop (tBM K "list" rExtend (tVar i) (tCons te tNil))) δ D := fun bp tp Ge He bx G H σ E x er kn kr kb kc => by
  obtain ⟨l, vs, e, a, b, cc, r, n⟩ := er.ownAt h
  refine ⟨.ref l, e, .inl ⟨rfl, vs, SqL.of cc⟩, he bp He bx σ G H x.le er _ fun m G1 H1 x1 r1 => ?_⟩
  have er1 := er.lift x1
  have c1 : H1 l = some (.lst vs) := x1.hh l _ (fun z => nomatch z) cc
  have b1 : G1 l = none := (x1.gs l (by rw [cc]; exact fun z => nomatch z)).trans b
  cases r1 with
  | @lst q ws _ hx rs =>
    refine ⟨l, q, vs, ws, rfl, rfl, c1, x1.le _ _ hx, by rw [r.len, rs.len]; exact len_line hz, ?_⟩
    exact kn bx G1 _ σ _ ((x.trans x1.none_to).mut a b1) x1.gg (er1.mutOwn h e ((r.mono x1.gg).app rs)) k
end
end R
set_option maxHeartbeats 4123456
/-! PB: names, rows, cards. -/
namespace R
open PySem L2
section
variable {K : PySem.W.Frag} {vs : List V} {H : Hp} {Q : VK} {E : XK}
def abcS : Str := "abcdefghijklmnopqrstuvwxyz"
def nameOk (z : Str) : Prop := 1 ≤ z.length ∧ z.length ≤ 8 ∧ ∀ c ∈ z.cps.toList, c ∈ abcS.cps.toList
def rowOk (z : Str) : Prop := 1 ≤ z.length ∧ z.length ≤ 24 ∧ ∀ c ∈ z.cps.toList, c = 111 ∨ c = 118
def sp_is_integer (K : PySem.W.Frag) : Sp := PuSp K fun ds r => ∃ i lo hi, ds = [.int i, .int lo, .int hi] ∧ r = .bl (decide (lo ≤ i) && decide (i ≤ hi))
def t_is_integer (K : PySem.W.Frag) : TS := (tRet (tAndV (tCB (rIsi K) (tCons (tVar 0) (tCons (tC (.ty "int")) tNil))) (tAndV (tNotV (tCB (rIsi K) (tCons (tVar 0) (tCons (tC (.ty "bool")) tNil)))) (tChain (rI0 fun i j => .bl (decide (i ≤ j))) (rI0 fun i j => .bl (decide (i ≤ j))) (tVar 1) (tVar 0) (tVar 2)))))
def N_is_integer : List Str := ["value", "low", "high"]
theorem pure_is_integer (h : sp_is_integer K vs H Q E) : t_is_integer K { nx := fun _ H' => Q .non H', rt := Q } (L2.start N_is_integer vs) H := by
  refine pu_body h (fun ds r ⟨_, _, _, e, _⟩ => by rw [e]; exact Nat.le_refl 3) ?_
  rintro _ _ ⟨i, lo, hi, rfl, rfl⟩
  refine std_ret (d := .bl (true && (!false && (decide (lo ≤ i) && decide (i ≤ hi))))) ?_ rfl
  refine evd_and (evd_isiN true "int" (evd_var rfl)) fun _ => ?_
  refine evd_and (evd_notV (evd_isiN false "int" (evd_var rfl))) fun _ => ?_
  exact evd_chain (evd_var rfl) (evd_var rfl) (fun _ => evd_var rfl) op2_B0 (fun _ => op2_B0)
def sp_is_name (K : PySem.W.Frag) : Sp := PuSp K fun ds r => ∃ z, ds = [.str z] ∧ nameOk z ∧ r = .bl true
def t_is_name (K : PySem.W.Frag) : TS := (tSeq (tIfS (tOr (tNot (tB (tCB (rIsi K) (tCons (tVar 0) (tCons (tC (.ty "str")) tNil))))) (tNot (tTest (tChain (rI0 fun i j => .bl (decide (i ≤ j))) (rI0 fun i j => .bl (decide (i ≤ j))) (tC (.int 1)) (tCB (rLenA K) (tCons (tVar 0) tNil)) (tC (.int 8)))))) (tRet (tC (.bl false))) tNext)
  (tRet (tCB (rAll K) (tCons (tLc (iStr (tVar 0)) (gName 1) tYes (tOp rInS (tVar 1) (tC (.str "abcdefghijklmnopqrstuvwxyz"))) [1]) tNil))))
def N_is_name : List Str := ["value", "sign"]
theorem all_map_true {α : Type} {f : α → Bool} {l : List α} (h : ∀ a ∈ l, f a = true) : (l.map f).all id = true := by
  rw [List.all_map]; exact List.all_eq_true.mpr h
theorem evd_allC {δ : List En} {wi : TI} {g : TG} {te : TE} {vs js : List Nat} {ds : List Da} {f : Da → Bool} (hs : Srcd K wi δ ds) (hj : ∀ j ∈ js, j ∈ vs) (hn : ds.length ≤ 50000)
    (h : ∀ (i : Nat) d, ds[i]? = some d → ∃ δ2, Tgd K g js d (wipeE δ vs) δ2 ∧ Evd K te δ2 (.bl (f d))) : Evd K (tCB (rAll K) (tCons (tLc wi g tYes te vs) tNil)) δ (.bl (ds.all f)) := by
  have e := (evo_map (f := fun d => .bl (f d)) hs hj hn h).frz
  have e2 : ds.map (fun d => Da.bl (f d)) = (ds.map f).map Da.bl := by rw [List.map_map]; rfl
  rw [e2] at e
  have q := evd_cb (eva_cons e eva_nil) opn_all
  rw [List.all_map] at q
  exact q
theorem mem_get {α : Type} {l : List α} {i : Nat} {a : α} (h : l[i]? = some a) : a ∈ l := List.mem_of_getElem? h
theorem signs_len (z : Str) : (signs z).length = z.length := by unfold signs; rw [List.length_map, Array.length_toList]; rfl
theorem signs_at {z : Str} {i : Nat} {d : Da} (h : (signs z)[i]? = some d) : ∃ c, d = .str ⟨#[c]⟩ ∧ c ∈ z.cps.toList := by
  unfold signs at h
  rw [List.getElem?_map] at h
  cases e : z.cps.toList[i]? with
  | none => rw [e] at h; cases h
  | some c => rw [e] at h; cases h; exact ⟨c, rfl, List.mem_of_getElem? e⟩
theorem all_true {α : Type} {l : List α} : l.all (fun _ => true) = true := List.all_eq_true.mpr fun _ _ => rfl
theorem pure_is_name (h : sp_is_name K vs H Q E) : t_is_name K { nx := fun _ H' => Q .non H', rt := Q } (L2.start N_is_name vs) H := by
  refine pu_body h (fun ds r ⟨_, e, _⟩ => by rw [e]; exact Nat.le_add_left 1 1) ?_
  rintro _ _ ⟨z, rfl, ⟨h1, h2, h3⟩, rfl⟩
  refine std_seq (std_if (b := !true || !(decide ((1 : Int) ≤ z.length) && decide ((z.length : Int) ≤ 8))) ?_ (fun e => absurd e ?_) fun _ => std_next ?_)
  · exact tvd_or (tvd_not (tvd_B (evd_isiN true "str" (evd_var rfl)))) fun _ => tvd_not (tvd_test (evd_chain evd_int (evd_cb (eva_cons (evd_var rfl) eva_nil) (opn_lenS (by omega))) (fun _ => evd_int) op2_B0 fun _ => op2_B0))
  · rw [decide_eq_true (by omega), decide_eq_true (by omega)]; decide
  · refine std_ret (d := .bl ((signs z).all fun _ => true)) ?_ (by rw [all_true])
    refine evd_allC (f := fun _ => true) (src_str (evd_var rfl)) (fun j h => h) (by rw [signs_len]; omega) fun i d e => ?_
    obtain ⟨c, rfl, hc⟩ := signs_at e
    refine ⟨_, tg_name, ?_⟩
    have q := op2_inSign (K := K) (c := c) (z := abcS)
    rw [decide_eq_true (h3 c hc)] at q
    exact evd_op (evd_var rfl) evd_str q
def sp_is_row (K : PySem.W.Frag) : Sp := PuSp K fun ds r => ∃ z, ds = [.str z] ∧ rowOk z ∧ r = .bl true
def t_is_row (K : PySem.W.Frag) : TS := (tSeq (tIfS (tOr (tNot (tB (tCB (rIsi K) (tCons (tVar 0) (tCons (tC (.ty "str")) tNil))))) (tNot (tTest (tChain (rI0 fun i j => .bl (decide (i ≤ j))) (rI0 fun i j => .bl (decide (i ≤ j))) (tC (.int 1)) (tCB (rLenA K) (tCons (tVar 0) tNil)) (tC (.int 24)))))) (tRet (tC (.bl false))) tNext)
  (tRet (tCB (rAll K) (tCons (tLc (iStr (tVar 0)) (gName 1) tYes (tOp (rIn K false) (tVar 1) (tTup (tCons (tC (.str "o")) (tCons (tC (.str "v")) tNil)))) [1]) tNil))))
def N_is_row : List Str := ["value", "sign"]
theorem pure_is_row (h : sp_is_row K vs H Q E) : t_is_row K { nx := fun _ H' => Q .non H', rt := Q } (L2.start N_is_row vs) H := by
  refine pu_body h (fun ds r ⟨_, e, _⟩ => by rw [e]; exact Nat.le_add_left 1 1) ?_
  rintro _ _ ⟨z, rfl, ⟨h1, h2, h3⟩, rfl⟩
  refine std_seq (std_if (b := !true || !(decide ((1 : Int) ≤ z.length) && decide ((z.length : Int) ≤ 24))) ?_ (fun e => absurd e ?_) fun _ => std_next ?_)
  · exact tvd_or (tvd_not (tvd_B (evd_isiN true "str" (evd_var rfl)))) fun _ => tvd_not (tvd_test (evd_chain evd_int (evd_cb (eva_cons (evd_var rfl) eva_nil) (opn_lenS (by omega))) (fun _ => evd_int) op2_B0 fun _ => op2_B0))
  · rw [decide_eq_true (by omega), decide_eq_true (by omega)]; decide
  · refine std_ret (d := .bl ((signs z).all fun _ => true)) ?_ (by rw [all_true])
    refine evd_allC (f := fun _ => true) (src_str (evd_var rfl)) (fun j h => h) (by rw [signs_len]; omega) fun i d e => ?_
    obtain ⟨c, rfl, hc⟩ := signs_at e
    refine ⟨_, tg_name, ?_⟩
    have q := op2_inT (K := K) (neg := false) (d := .str ⟨#[c]⟩) (ds := [.str "o", .str "v"]) rfl rfl
    have q2 : inD (.str ⟨#[c]⟩) [.str "o", .str "v"] = true := by
      have := inD_str ⟨#[c]⟩ ["o", "v"]
      refine this.trans (decide_eq_true ?_)
      rcases h3 c hc with rfl | rfl
      · exact List.mem_cons_self
      · exact List.mem_cons_of_mem _ List.mem_cons_self
    rw [q2] at q
    exact evd_op (evd_var rfl) (evd_tup (eva_cons evd_str (eva_cons evd_str eva_nil)) (by decide)) q
def sp_is_list (K : PySem.W.Frag) : Sp := PuSp K fun ds r => ∃ b xs m, ds = [seqD b xs, .int m] ∧ r = .bl (decide ((xs.length : Int) ≤ m))
def t_is_list (K : PySem.W.Frag) : TS := (tRet (tAndV (tCB (rIsiT K) (tCons (tVar 0) (tCons (tTup (tCons (tC (.ty "list")) (tCons (tC (.ty "tuple")) tNil))) tNil))) (tOp (rI0 fun i j => .bl (decide (i ≤ j))) (tCB (rLenA K) (tCons (tVar 0) tNil)) (tVar 1))))
def N_is_list : List Str := ["value", "most"]
theorem pure_is_list (h : sp_is_list K vs H Q E) : t_is_list K { nx := fun _ H' => Q .non H', rt := Q } (L2.start N_is_list vs) H := by
  refine pu_body h (fun ds r ⟨_, _, _, e, _⟩ => by rw [e]; exact Nat.le_refl 2) ?_
  rintro _ _ ⟨b, xs, m, rfl, rfl⟩
  refine std_ret (d := .bl (true && decide ((xs.length : Int) ≤ m))) ?_ rfl
  exact evd_and (evd_isiLT (evd_var rfl)) fun _ => evd_op (evd_cb (eva_cons (evd_var rfl) eva_nil) opn_lenSeq) (evd_var rfl) op2_B0
def sp_is_open (K : PySem.W.Frag) : Sp := PuSp K fun ds r => ∃ z i c, ds = [.str z, .int i] ∧ z.length ≤ 24 ∧ atI z.cps.toList i = some c ∧ r = .bl (decide (c = 118))
def t_is_open (K : PySem.W.Frag) : TS := (tRet (tOp rEq (tOp rIxS (tVar 0) (tVar 1)) (tC (.str "v"))))
def N_is_open : List Str := ["row", "hole"]
theorem sign_eq (c d : Nat) : decide ((⟨#[c]⟩ : Str) = ⟨#[d]⟩) = decide (c = d) := decide_eq_decide.mpr ⟨fun h => by injection h with h; injection h with h; injection h, fun h => by rw [h]⟩
theorem pure_is_open (h : sp_is_open K vs H Q E) : t_is_open K { nx := fun _ H' => Q .non H', rt := Q } (L2.start N_is_open vs) H := by
  refine pu_body h (fun ds r ⟨_, _, _, e, _⟩ => by rw [e]; exact Nat.le_refl 2) ?_
  rintro _ _ ⟨z, i, c, rfl, h1, h2, rfl⟩
  refine std_ret (d := .bl (decide ((⟨#[c]⟩ : Str) = ⟨#[118]⟩))) ?_ (by rw [sign_eq])
  exact evd_op (evd_op (evd_var rfl) (evd_var rfl) (op2_ixS (by omega) h2)) (evd_str (x := ⟨#[118]⟩)) op2_eqS
def sp_is_card (K : PySem.W.Frag) : Sp := PuSp K fun ds r => ∃ n w, ds = [cardD (n, w)] ∧ nameOk n ∧ rowOk w ∧ r = .bl true
def t_is_card (K : PySem.W.Frag) : TS := (tRet (tAndV (tCB (rIsi K) (tCons (tVar 0) (tCons (tC (.ty "tuple")) tNil))) (tAndV (tOp rEq (tCB (rLenA K) (tCons (tVar 0) tNil)) (tC (.int 2))) (tAndV (tCall (sp_is_name K) [] E0 (tCons (tOp (rIxT K) (tVar 0) (tC (.int 0))) tNil)) (tCall (sp_is_row K) [] E0 (tCons (tOp (rIxT K) (tVar 0) (tC (.int 1))) tNil))))))
def N_is_card : List Str := ["value"]
theorem pure_is_card (h : sp_is_card K vs H Q E) : t_is_card K { nx := fun _ H' => Q .non H', rt := Q } (L2.start N_is_card vs) H := by
  refine pu_body h (fun ds r ⟨_, _, e, _⟩ => by rw [e]; exact Nat.le_refl 1) ?_
  rintro _ _ ⟨n, w, rfl, h1, h2, rfl⟩
  refine std_ret (d := .bl (true && (true && (true && true)))) ?_ rfl
  refine evd_and (evd_isiN true "tuple" (evd_var rfl)) fun _ => evd_and ?_ fun _ => evd_and ?_ fun _ => ?_
  · exact evd_op (d := .bl true) (evd_cb (d := .int 2) (eva_cons (evd_var rfl) eva_nil) opn_lenT) evd_int op2_eqI
  · exact evd_call (eva_cons (evd_op (evd_var rfl) evd_int (op2_ixT rfl)) eva_nil) ⟨n, rfl, h1, rfl⟩
  · exact evd_call (eva_cons (evd_op (evd_var rfl) evd_int (op2_ixT rfl)) eva_nil) ⟨w, rfl, h2, rfl⟩
end
end R
set_option maxHeartbeats 4123456
/-! PC: packs. -/
namespace R
open PySem L2
section
variable {K : PySem.W.Frag} {vs : List V} {H : Hp} {Q : VK} {E : XK}
structure PackOk (cs : List (Str × Str)) : Prop where
  len : cs.length ≤ 60
  ok : ∀ c ∈ cs, nameOk c.1 ∧ rowOk c.2
  nd : (cs.map (·.1)).Nodup
  wd : ∃ w, ∀ c ∈ cs, c.2.length = w
/-- what the head tells of the class -/
structure PkC (K : PySem.W.Frag) : Prop where
  cl : Cls K (PC K)
  na : NoAttr K (PC K) "pack_rows"
  own : Own K (PC K)
theorem ER.ofReps {G H He : Hp} {σ : L2.St} {δ : List En} (hl : σ.length = δ.length) (h : ∀ (i : Nat) (en : En), δ[i]? = some en → en = En.any ∨ ∃ d v, en = En.rep d ∧ σ[i]? = some (some v) ∧ Rep K G v d) : ER K none He none G H σ δ := by
  refine ⟨hl, fun i en e => ?_, fun i j ds es l ne h1 h2 h3 => ?_, (fun b e => nomatch e), (fun b e => nomatch e), (fun b e => nomatch e)⟩
  · rcases h i en e with rfl | ⟨d, v, rfl, e2, r⟩
    · trivial
    · exact ⟨v, by rw [e2]; rfl, r⟩
  · rcases h i _ h1 with z | ⟨d, v, z, _, _⟩ <;> cases z
theorem er5 {G H He : Hp} {σ : L2.St} {d1 : Da} {v1 : V} (hl : σ.length = 5) (h1 : σ[1]? = some (some v1)) (r1 : Rep K G v1 d1) : ER K none He none G H σ [.any, .rep d1, .any, .any, .any] :=
  ER.ofReps hl fun i en e => by
    match i, e with
    | 0, e => cases e; exact .inl rfl
    | 1, e => cases e; exact .inr ⟨_, _, rfl, h1, r1⟩
    | 2, e => cases e; exact .inl rfl
    | 3, e => cases e; exact .inl rfl
    | 4, e => cases e; exact .inl rfl
    | i + 5, e => simp at e
theorem Ext.back {G H G' H' : Hp} {x : Addr} {o : HO} (e : Ext (some x) G H G' H') (hx : H x = some o) (gx : G' x = none) : Ext none G H G' (upd H' x o) := by
  refine ⟨e.gg, fun a u _ z => ?_, fun a z => ?_, e.gs, fun a u z => ?_⟩
  · by_cases h : a = x
    · rw [h, upd_same]; rw [h, hx] at z; exact z
    · rw [upd_ne h]; exact e.hh a u (fun y => h (by cases y; rfl)) z
  · by_cases h : a = x
    · rw [h, upd_same]; exact fun y => nomatch y
    · rw [upd_ne h]; exact e.hn a z
  · rw [upd_ne (ne_of_none z gx)]; exact e.le a u z
theorem rowsOf_take {cs : List (Str × Str)} {i : Nat} {c : Str × Str} (e : cs[i]? = some c) : rowsOf (cs.take (i + 1)) = rowsOf (cs.take i) ++ [((Sum.inr c.1 : Key), V.str c.2)] := by
  unfold rowsOf
  rw [List.take_add_one, e, List.map_append]; rfl
theorem valV_absent {kvs : List (Key × V)} {k : Key} (h : k ∉ kvs.map (·.1)) : valV kvs k = none := by
  unfold valV
  rw [List.find?_eq_none.mpr]
  · rfl
  · intro p hp z
    exact h (List.mem_map.mpr ⟨p, hp, of_decide_eq_true z⟩)
theorem putK_absent {kvs : List (Key × V)} {k : Key} {v : V} (h : k ∉ kvs.map (·.1)) : putK kvs k v = kvs ++ [(k, v)] := by
  unfold putK
  rw [if_neg]
  intro z
  rw [List.any_eq_true] at z
  obtain ⟨p, hp, z⟩ := z
  exact h (List.mem_map.mpr ⟨p, hp, of_decide_eq_true z⟩)
theorem row_absent {cs : List (Str × Str)} {i : Nat} {c : Str × Str} (nd : (cs.map (·.1)).Nodup) (e : cs[i]? = some c) : (Sum.inr c.1 : Key) ∉ (rowsOf (cs.take i)).map (·.1) := fun z => by
  unfold rowsOf at z
  rw [List.map_map] at z
  obtain ⟨p, hp, z⟩ := List.mem_map.mp z
  have z : p.1 = c.1 := Sum.inr.inj z
  obtain ⟨j, hj, ej⟩ := List.mem_take_iff_getElem.mp hp
  obtain ⟨hi, ei⟩ := List.getElem?_eq_some_iff.mp e
  have : j < i := by omega
  have h1 : (cs.map (·.1))[j]'(by rw [List.length_map]; omega) = (cs.map (·.1))[i]'(by rw [List.length_map]; omega) := by
    rw [List.getElem_map, List.getElem_map, ej, ei]; exact z
  have := (List.getElem_inj nd).mp h1
  omega
theorem cards_at {cs : List (Str × Str)} {i : Nat} {d : Da} (e : (cardsD cs)[i]? = some d) : ∃ c, cs[i]? = some c ∧ d = cardD c := by
  unfold cardsD at e
  rw [List.getElem?_map] at e
  cases q : cs[i]? with
  | none => rw [q] at e; cases e
  | some c => rw [q] at e; cases e; exact ⟨c, rfl, rfl⟩
theorem cardsD_len (cs : List (Str × Str)) : (cardsD cs).length = cs.length := by unfold cardsD; rw [List.length_map]
def sp_Pack_Dinit (K : PySem.W.Frag) : Sp := PkSp K PackOk
def t_Pack_Dinit (K : PySem.W.Frag) : TS := (tSeq (tIfS (tNot (tB (tCall (sp_is_list K) [] E0 (tCons (tVar 1) (tCons (tC (.int 60)) tNil))))) tNever tNext)
  (tSeq (sFld K (tVar 0) tDNewK "pack_rows")
  (tFor (iList K (tVar 1)) (gName 2) (tSeq (tIfS (tNot (tB (tCall (sp_is_card K) [] E0 (tCons (tVar 2) tNil)))) tNever tNext)
  (tSeq (tAsg (tVar 2) (gTup K 2 (gCons (gName 3) (gCons (gName 4) gNil))))
  (tSeq (tIfS (tB (tDIn (tVar 3) (tFld K (tVar 0) "pack_rows"))) tNever tNext)
  (tSeq (tIfS (tTest (tOp rNe (tCB (rLenA K) (tCons (tVar 4) tNil)) (tCB (rLenA K) (tCons (tOp (rIxT K) (tOp (rIxL K) (tVar 1) (tC (.int 0))) (tC (.int 1))) tNil)))) tNever tNext)
  (sDPut (tFld K (tVar 0) "pack_rows") (tVar 3) (tVar 4)))))))))
def N_Pack_Dinit : List Str := ["self", "cards", "card", "name", "row"]
theorem pure_Pack_Dinit (T : PkC K) (h : sp_Pack_Dinit K vs H Q E) : tFrzE (t_Pack_Dinit K) { nx := fun _ H' => Q .non H', rt := Q } (L2.start N_Pack_Dinit vs) H := by
  obtain ⟨G, x, dx, a, cs, rfl, le, gx, hx, ra, ok, nxdx, gdx, hdx, q⟩ := h
  obtain ⟨w0, hw0⟩ := ok.wd
  have e0 : (L2.start N_Pack_Dinit [.ref x, a])[0]? = some (some (V.ref x)) := rfl
  have e1 : (L2.start N_Pack_Dinit [.ref x, a])[1]? = some (some a) := rfl
  have el : (L2.start N_Pack_Dinit [.ref x, a]).length = 5 := rfl
  generalize L2.start N_Pack_Dinit [.ref x, a] = σ at e0 e1 el
  have er := er5 (He := H) (H := H) el e1 ra
  have t1 : Tvd K (tNot (tB (tCall (sp_is_list K) [] E0 (tCons (tVar 1) (tCons (tC (.int 60)) tNil))))) [.any, .rep (.lst (cardsD cs)), .any, .any, .any] (!decide (((cardsD cs).length : Int) ≤ 60)) :=
    tvd_not (tvd_B (evd_call (eva_cons (evd_var rfl) (eva_cons evd_int eva_nil)) ⟨true, cardsD cs, 60, rfl, rfl⟩))
  rw [decide_eq_true (by rw [cardsD_len]; have := ok.len; omega)] at t1
  unfold tFrzE t_Pack_Dinit
  refine pt_seq (pt_if (t1 none H none σ G H le er _ ?_))
  intro G1 H1 x1
  refine iteF (pt_nx (pt_seq ?_))
  -- the dict
  intro p hp
  have hx1 : H1 x = some (.ins (PC K) dx []) := x1.hh x _ (fun z => nomatch z) hx
  have gx1 : G1 x = none := (x1.gs x (by rw [hx]; exact fun z => nomatch z)).trans gx
  have gp : G1 p = none := x1.le.free hp
  have npx : p ≠ x := fun z => by rw [z, hx1] at hp; cases hp
  refine ⟨.ref x, e0, x, PC K, dx, [], rfl, by rw [upd_ne npx.symm]; exact hx1, T.cl, T.na, by decide, ?_⟩
  -- the walk
  have hp0 : H p = none := x1.free hp
  have X0 : Ext (some x) G H G1 (upd (upd H1 p (.dK [])) x (.ins (PC K) dx [("pack_rows", .ref p)])) := by
    have y1 : Ext (some x) G H G1 (upd H1 p (.dK [])) := (x1.none_to).mut hp0 gp
    have y2 : Ext (some x) G1 (upd H1 p (.dK [])) G1 (upd (upd H1 p (.dK [])) x (.ins (PC K) dx [("pack_rows", .ref p)])) := Ext.boxed y1.le gx1 (by rw [upd_ne npx.symm, hx1]; exact fun z => nomatch z)
    exact y1.trans y2
  show (tFor (iList K (tVar 1)) (gName 2) _) _ σ _
  refine src_list (ds := cardsD cs) (evd_var (i := 1) (δ := [.any, .rep (.lst (cardsD cs)), .any, .any, .any]) rfl) none H none σ G1 _ X0.le (er5 el e1 (ra.mono x1.gg)) _ fun J G2 H2 x2 wk => ?_
  refine for_it wk (Pv := fun i σ' H' => ∃ G', Ext (some x) G H G' H' ∧ Same G2 G' ∧ G' p = none ∧ H' x = some (.ins (PC K) dx [("pack_rows", .ref p)]) ∧ H' p = some (.dK (rowsOf (cs.take i))) ∧
    σ'.length = 5 ∧ σ'[0]? = some (some (.ref x)) ∧ σ'[1]? = some (some a)) ?_ (fun i σ' H' _ ⟨G', x', s, _⟩ => s.trans x'.le) ?_ ?_
  · have hxx : upd (upd H1 p (.dK [])) x (.ins (PC K) dx [("pack_rows", .ref p)]) x = some (.ins (PC K) dx [("pack_rows", .ref p)]) := upd_same
    have hpp : upd (upd H1 p (.dK [])) x (.ins (PC K) dx [("pack_rows", .ref p)]) p = some (.dK []) := by rw [upd_ne npx]; exact upd_same
    exact ⟨G2, X0.trans x2.none_to, Same.refl _, (x2.gs p (by rw [hpp]; exact fun z => nomatch z)).trans gp, x2.hh x _ (fun z => nomatch z) hxx, x2.hh p _ (fun z => nomatch z) hpp, el, e0, e1⟩
  · rintro i v σ' Ha Hb hi ⟨G', xa, s, gp', hxa, hpa, l', s0, s1⟩ y
    obtain ⟨G3, d, e, x3, r3⟩ := y G' s xa.le
    obtain ⟨⟨n, w⟩, ec, rfl⟩ := cards_at e
    have hmem : (n, w) ∈ cs := List.mem_of_getElem? ec
    obtain ⟨nok, rok⟩ := ok.ok _ hmem
    have ra3 : Rep K G3 a (.lst (cardsD cs)) := ra.mono (xa.gg.trans x3.gg)
    have erb := er5 (He := H) (H := Hb) l' s1 ra3
    refine tg_name (i := 2) none H none σ' G3 Hb v x3.le erb r3 _ fun σ2 er2 l2 k2 => ?_
    have t2 : Tvd K (tNot (tB (tCall (sp_is_card K) [] E0 (tCons (tVar 2) tNil)))) [.any, .rep (.lst (cardsD cs)), .rep (cardD (n, w)), .any, .any] (!true) :=
      tvd_not (tvd_B (evd_call (eva_cons (evd_var rfl) eva_nil) ⟨n, w, rfl, nok, rok, rfl⟩))
    refine pt_seq (pt_if (t2 none H none σ2 G3 Hb x3.le er2 _ ?_))
    intro G4 H4 x4
    refine iteF (pt_nxs (pt_seq (pt_asg ?_)))
    refine (evd_var (i := 2) (d := cardD (n, w)) rfl) none H none σ2 G4 H4 x4.le (er2.lift x4) _ fun v5 G5 H5 x5 r5 => ?_
    refine tg_two (i := 3) (j := 4) none H none σ2 G5 H5 v5 x5.le ((er2.lift x4).lift x5) r5 _ fun σ3 er3 l3 k3 => ?_
    have x35 : Ext none G' Ha G5 H5 := (x3.trans x4).trans x5
    have q0 : σ3[0]? = some (some (.ref x)) := (k3 0 (by decide)).trans ((k2 0 (by decide)).trans s0)
    have q1 : σ3[1]? = some (some a) := (k3 1 (by decide)).trans ((k2 1 (by decide)).trans s1)
    obtain ⟨_, q3, r3'⟩ := er3.rep (i := 3) rfl
    obtain rfl := r3'.strI
    have hx5 : H5 x = _ := x35.hh x _ (fun z => nomatch z) hxa
    have hp5 : H5 p = _ := x35.hh p _ (fun z => nomatch z) hpa
    have ab := row_absent ok.nd ec
    -- name in self.pack_rows
    dsimp only
    refine pt_seq (pt_if ?_)
    refine ⟨_, q3, _, q0, x, PC K, dx, _, .ref p, rfl, hx5, T.cl, T.na, rfl, p, none, rfl, ?_, false, rfl, iteF (pt_nxs ?_)⟩
    · have := DGet.k (k := (Sum.inr n : Key)) hp5
      rwa [valV_absent ab] at this
    have t3 : Tvd K (tTest (tOp rNe (tCB (rLenA K) (tCons (tVar 4) tNil)) (tCB (rLenA K) (tCons (tOp (rIxT K) (tOp (rIxL K) (tVar 1) (tC (.int 0))) (tC (.int 1))) tNil)))) [.any, .rep (.lst (cardsD cs)), .rep (cardD (n, w)), .rep (.str n), .rep (.str w)] false := by
      cases ecs : cs with
      | nil => rw [ecs] at hmem; cases hmem
      | cons c0 cr =>
        have hc0 : c0 ∈ cs := by rw [ecs]; exact List.mem_cons_self
        have z := op2_neI (K := K) (i := (w.length : Int)) (j := (c0.2.length : Int))
        rw [hw0 _ hmem, hw0 _ hc0, decide_eq_true rfl] at z
        have l1 : w.length ≤ 24 := rok.2.1
        have l2 : c0.2.length ≤ 24 := (ok.ok _ hc0).2.2.1
        have g1 : Opn K (rLenA K) [.str w] (.int w0) := by
          have := opn_lenS (K := K) (z := w) (by omega)
          rwa [show w.length = w0 from hw0 _ hmem] at this
        have g2 : Opn K (rLenA K) [.str c0.2] (.int w0) := by
          have := opn_lenS (K := K) (z := c0.2) (by omega)
          rwa [show c0.2.length = w0 from hw0 _ hc0] at this
        exact tvd_test (evd_op (evd_cb (eva_cons (evd_var rfl) eva_nil) g1) (evd_cb (eva_cons (evd_op (evd_op (evd_var rfl) evd_int (op2_ixL (d := cardD c0) (atI_nat (j := 0) rfl))) evd_int (op2_ixT (d := .str c0.2) rfl)) eva_nil) g2) z)
    refine pt_seq (pt_if (t3 none H none σ3 G5 H5 x5.le er3 _ ?_))
    intro G6 H6 x6
    refine iteF (pt_nxs ?_)
    have hx6 : H6 x = _ := x6.hh x _ (fun z => nomatch z) hx5
    have hp6 : H6 p = _ := x6.hh p _ (fun z => nomatch z) hp5
    have x36 := x35.trans x6
    obtain ⟨_, q4, r4⟩ := er3.rep (i := 4) rfl
    obtain rfl := r4.strI
    have gp6 : G6 p = none := (x36.gs p (by rw [hpa]; exact fun z => nomatch z)).trans gp'
    refine ⟨_, q4, _, q0, x, PC K, dx, _, .ref p, rfl, hx6, T.cl, T.na, rfl, _, q3, p, _, rfl, DPut.k (k := (Sum.inr n : Key)) hp6 ?_, ?_⟩
    · unfold rowsOf
      rw [List.length_map, List.length_take]
      exact Nat.lt_of_le_of_lt (Nat.le_trans (Nat.min_le_right _ _) ok.len) (by rw [sizeLine_eq]; decide)
    · rw [putK_absent ab, ← rowsOf_take (c := (n, w)) ec]
      refine ⟨G6, (xa.trans x36.none_to).mut hp0 gp6, s.trans x36.gg, gp6, by rw [upd_ne npx.symm]; exact hx6, upd_same, l3.trans (l2.trans l'), q0, q1⟩
  · rintro σ' H' ⟨G', xa, s, gp', hxa, hpa, l', s0, s1⟩
    rw [cardsD_len, List.take_length] at hpa
    refine ⟨p, rowsOf cs, hpa, fun o => ?_⟩
    have gx' : G' x = none := (xa.gs x (by rw [hx]; exact fun z => nomatch z)).trans gx
    have y1 : Ext (some x) G H (upd G' p (.frz o (.dK (rowsOf cs)))) (upd H' p (.frz o (.dK (rowsOf cs)))) := (xa.mut hp0 gp').known hp0 gp' upd_same
    have ndp : dx ≠ p := fun z => by rw [← z, hdx] at hp0; cases hp0
    refine q _ _ p o (y1.back hx (by rw [upd_ne npx.symm]; exact gx')) (by rw [upd_ne npx.symm]; exact gx') ?_ (by rw [upd_ne npx.symm]; exact hxa) ?_ npx upd_same
    · rw [upd_ne ndp]
      exact (xa.gs dx (by rw [hdx]; exact fun z => nomatch z)).trans gdx
    · rw [upd_ne ndp]
      exact xa.hh dx _ (fun z => nxdx (by cases z; rfl)) hdx
theorem PackOk.filter {cs : List (Str × Str)} (h : PackOk cs) (f : Str × Str → Bool) : PackOk (cs.filter f) := by
  obtain ⟨w, hw⟩ := h.wd
  exact ⟨Nat.le_trans (List.length_filter_le f cs) h.len, fun c hc => h.ok c ((List.mem_filter.mp hc).1), h.nd.sublist ((List.filter_sublist).map _), w, fun c hc => hw c ((List.mem_filter.mp hc).1)⟩
def sp_Pack_Dlen (K : PySem.W.Frag) : Sp := PuSp K fun ds r => ∃ cs, ds = [.pck cs] ∧ r = .int (cs.length : Int)
def t_Pack_Dlen (K : PySem.W.Frag) : TS := (tRet (tCB rLenF (tCons (tFld K (tVar 0) "pack_rows") tNil)))
def N_Pack_Dlen : List Str := ["self"]
theorem rowsD_len (cs : List (Str × Str)) : (rowsD cs).length = cs.length := by unfold rowsD; rw [List.length_map]
theorem pure_Pack_Dlen (T : PkC K) (h : sp_Pack_Dlen K vs H Q E) : t_Pack_Dlen K { nx := fun _ H' => Q .non H', rt := Q } (L2.start N_Pack_Dlen vs) H := by
  refine pu_body h (fun ds r ⟨_, e, _⟩ => by rw [e]; exact Nat.le_refl 1) ?_
  rintro _ _ ⟨cs, rfl, rfl⟩
  exact std_ret (d := .int ((rowsD cs).length : Int)) (evd_lenF (evd_rows T.cl T.na (evd_var rfl))) (by rw [rowsD_len])
def sp_Pack_cards (K : PySem.W.Frag) : Sp := PuSp K fun ds r => ∃ cs, ds = [.pck cs] ∧ r = .lst (cardsD cs)
def t_Pack_cards (K : PySem.W.Frag) : TS := (tRet (tItemsF (tFld K (tVar 0) "pack_rows")))
def N_Pack_cards : List Str := ["self"]
theorem items_rows (cs : List (Str × Str)) : ((rowsD cs).map fun k => Da.tup [keyD k.1, k.2]) = cardsD cs := by
  unfold rowsD cardsD
  rw [List.map_map]; rfl
theorem pure_Pack_cards (T : PkC K) (h : sp_Pack_cards K vs H Q E) : t_Pack_cards K { nx := fun _ H' => Q .non H', rt := Q } (L2.start N_Pack_cards vs) H := by
  refine pu_body h (fun ds r ⟨_, e, _⟩ => by rw [e]; exact Nat.le_refl 1) ?_
  rintro _ _ ⟨cs, rfl, rfl⟩
  exact std_ret (evo_items (evd_rows T.cl T.na (evd_var rfl))).frz (by rw [items_rows])
def widthOf (cs : List (Str × Str)) : Int := maxI 0 (cs.map fun c => (c.2.length : Int))
def sp_Pack_width (K : PySem.W.Frag) : Sp := PuSp K fun ds r => ∃ cs, ds = [.pck cs] ∧ PackOk cs ∧ r = .int (widthOf cs)
def t_Pack_width (K : PySem.W.Frag) : TS := (tRet (tCKw (rMaxD K) (tCons (tLc (iVals (tFld K (tVar 0) "pack_rows")) (gName 1) tYes (tCB (rLenA K) (tCons (tVar 1) tNil)) [1]) tNil) (tCons (tC (.int 0)) tNil)))
def N_Pack_width : List Str := ["self", "row"]
theorem pure_Pack_width (T : PkC K) (h : sp_Pack_width K vs H Q E) : t_Pack_width K { nx := fun _ H' => Q .non H', rt := Q } (L2.start N_Pack_width vs) H := by
  refine pu_body h (fun ds r ⟨_, e, _⟩ => by rw [e]; exact Nat.le_add_left 1 1) ?_
  rintro _ _ ⟨cs, rfl, ok, rfl⟩
  refine std_ret (evd_maxD (ns := cs.map fun c => (c.2.length : Int)) ?_ evd_int) rfl
  have e := evo_map (K := K) (g := gName 1) (te := tCB (rLenA K) (tCons (tVar 1) tNil)) (vs := [1]) (f := fun d => match d with | .str z => .int z.length | _ => .non)
    (src_vals (evd_rows T.cl T.na (evd_var (K := K) (δ := envOf N_Pack_width ([Da.pck cs].map En.rep)) (i := 0) rfl))) (fun j h => h) (by rw [List.length_map, rowsD_len]; have := ok.len; omega) fun i d e => by
      unfold rowsD at e
      rw [List.map_map, List.getElem?_map] at e
      cases q : cs[i]? with
      | none => rw [q] at e; cases e
      | some c =>
        rw [q] at e
        cases e
        refine ⟨_, tg_name, ?_⟩
        have l : c.2.length ≤ 24 := (ok.ok _ (List.mem_of_getElem? q)).2.2.1
        exact evd_cb (eva_cons (evd_var rfl) eva_nil) (opn_lenS (by show c.2.length ≤ _; omega))
  refine e.frz.is ?_
  unfold rowsD
  rw [List.map_map, List.map_map, List.map_map]; rfl
theorem widthOf_eq {cs : List (Str × Str)} {w : Nat} (h : ∀ c ∈ cs, c.2.length = w) (ne : cs ≠ []) : widthOf cs = (w : Int) := by
  unfold widthOf
  cases cs with
  | nil => exact absurd rfl ne
  | cons c cs =>
    have aux : ∀ l : List (Str × Str), (∀ c ∈ l, c.2.length = w) → (l.map fun c => (c.2.length : Int)).foldl max (w : Int) = (w : Int) := by
      intro l
      induction l with
      | nil => intro _; rfl
      | cons a l ih =>
        intro hl
        rw [List.map_cons, List.foldl_cons, hl a List.mem_cons_self, Int.max_self]
        exact ih fun c hc => hl c (List.mem_cons_of_mem _ hc)
    show (cs.map fun c => (c.2.length : Int)).foldl max (c.2.length : Int) = _
    rw [h c List.mem_cons_self]
    exact aux cs fun c hc => h c (List.mem_cons_of_mem _ hc)
def sp_need_pack (K : PySem.W.Frag) : Sp := PuSp K fun ds r => ∃ cs, ds = [.pck cs] ∧ r = .non
def t_need_pack (K : PySem.W.Frag) : TS := (tIfS (tNot (tB (tCB (rIsi K) (tCons (tVar 0) (tCons (tC (.ref (He.ga K "Pack"))) tNil))))) tNever tNext)
def N_need_pack : List Str := ["pack"]
theorem pure_need_pack (T : PkC K) (h : sp_need_pack K vs H Q E) : t_need_pack K { nx := fun _ H' => Q .non H', rt := Q } (L2.start N_need_pack vs) H := by
  refine pu_body h (fun ds r ⟨_, e, _⟩ => by rw [e]; exact Nat.le_refl 1) ?_
  rintro _ _ ⟨cs, rfl, rfl⟩
  exact std_if (b := !true) (tvd_not (tvd_B (evd_isiPack T.own (evd_var rfl)))) (fun e => nomatch e) fun _ => std_next rfl
def sp_need_hole (K : PySem.W.Frag) : Sp := PuSp K fun ds r => ∃ cs i, ds = [.pck cs, .int i] ∧ PackOk cs ∧ 0 ≤ i ∧ i < widthOf cs ∧ r = .non
def t_need_hole (K : PySem.W.Frag) : TS := (tIfS (tNot (tB (tCall (sp_is_integer K) [] E0 (tCons (tVar 1) (tCons (tC (.int 0)) (tCons (tOp (rI0 fun i j => .int (i - j)) (tMeth (He.ga K "Pack") "width" (sp_Pack_width K) [] E0 (tVar 0) tNil) (tC (.int 1))) tNil)))))) tNever tNext)
def N_need_hole : List Str := ["pack", "hole"]
theorem pure_need_hole (h : sp_need_hole K vs H Q E) : t_need_hole K { nx := fun _ H' => Q .non H', rt := Q } (L2.start N_need_hole vs) H := by
  refine pu_body h (fun ds r ⟨_, _, e, _⟩ => by rw [e]; exact Nat.le_refl 2) ?_
  rintro _ _ ⟨cs, i, rfl, ok, h0, h1, rfl⟩
  refine std_if (b := !(decide (0 ≤ i) && decide (i ≤ widthOf cs - 1))) (tvd_not (tvd_B ?_)) (fun e => absurd e ?_) fun _ => std_next rfl
  · exact evd_call (eva_cons (evd_var rfl) (eva_cons evd_int (eva_cons (evd_op (evd_meth (evd_var rfl) eva_nil (by decide) ⟨cs, rfl, ok, rfl⟩) evd_int op2_I0) eva_nil))) ⟨i, 0, widthOf cs - 1, rfl, rfl⟩
  · rw [decide_eq_true h0, decide_eq_true (by omega)]; decide
/-- does the card fall -/
def falls (hs : List Int) (c : Str × Str) : Bool := hs.all fun h => c.2.cps.toList[h.toNat]? == some 118
def inRow (cs : List (Str × Str)) (h : Int) : Prop := 0 ≤ h ∧ ∀ c ∈ cs, h.toNat < c.2.length
def partsD (cs : List (Str × Str)) (hs : List Int) : Da := .tup [.pck (cs.filter (falls hs)), .pck (cs.filter fun c => !falls hs c)]
def sp_parted (K : PySem.W.Frag) : Sp := PuSp K fun ds r => ∃ cs b hs, ds = [.pck cs, seqD b (hs.map .int)] ∧ PackOk cs ∧ hs.length ≤ 1000 ∧ (∀ h ∈ hs, inRow cs h) ∧ r = partsD cs hs
def t_parted (K : PySem.W.Frag) : TS := (tSeq (tAsg (tLst tNil) (gName 2))
  (tSeq (tAsg (tLst tNil) (gName 3))
  (tSeq (tFor (iList K (tMeth (He.ga K "Pack") "cards" (sp_Pack_cards K) [] E0 (tVar 0) tNil)) (gName 4) (tIfS (tB (tCB (rAll K) (tCons (tLc (iSeq K (tVar 1)) (gName 5) tYes (tCall (sp_is_open K) [] E0 (tCons (tOp (rIxT K) (tVar 4) (tC (.int 1))) (tCons (tVar 5) tNil))) [5]) tNil))) (tDrop (tBM K "list" rAppend (tVar 2) (tCons (tVar 4) tNil))) (tDrop (tBM K "list" rAppend (tVar 3) (tCons (tVar 4) tNil)))))
  (tRet (tTup (tCons (tMake (He.ga K "Pack") (sp_Pack_Dinit K) [] E0 (tCons (tVar 2) tNil)) (tCons (tMake (He.ga K "Pack") (sp_Pack_Dinit K) [] E0 (tCons (tVar 3) tNil)) tNil)))))))
def N_parted : List Str := ["pack", "holes", "fallen", "held", "card", "hole"]
theorem pure_parted (h : sp_parted K vs H Q E) : t_parted K { nx := fun _ H' => Q .non H', rt := Q } (L2.start N_parted vs) H := by
  refine pu_body h (fun ds r ⟨_, _, _, e, _⟩ => by rw [e]; exact Nat.le_add_left 2 4) ?_
  rintro _ _ ⟨cs, b, hs, rfl, ok, hl, hi, rfl⟩
  refine std_seq (std_asgO (evo_lst eva_nil (by decide)) (std_seq (std_asgO (evo_lst eva_nil (by decide)) (std_seq ?_))))
  refine std_for (js := [4]) (src_list (evd_meth (evd_var rfl) eva_nil (by decide) ⟨cs, rfl, rfl⟩)) (fun i δ => ∃ e4, δ = [.rep (.pck cs), .rep (seqD b (hs.map .int)), .own (cardsD ((cs.take i).filter (falls hs))), .own (cardsD ((cs.take i).filter fun c => !falls hs c)), e4, .any])
    ⟨.any, rfl⟩ ?_ ?_
  · rintro i d δ1 e ⟨e4, rfl⟩
    obtain ⟨c, ec, rfl⟩ := cards_at e
    have hmem := List.mem_of_getElem? ec
    have rok : c.2.length ≤ 24 := (ok.ok c hmem).2.2.1
    refine ⟨_, tg_name, std_if (b := falls hs c) ?_ (fun hf => ?_) fun hf => ?_⟩
    · refine tvd_B ?_
      have q := evd_allC (K := K) (g := gName 5) (te := tCall (sp_is_open K) [] E0 (tCons (tOp (rIxT K) (tVar 4) (tC (.int 1))) (tCons (tVar 5) tNil))) (vs := [5]) (js := [5]) (f := fun d => match d with | .int h => c.2.cps.toList[h.toNat]? == some 118 | _ => false)
        (src_seq (evd_var (i := 1) (δ := [.rep (.pck cs), .rep (seqD b (hs.map .int)), .own (cardsD ((cs.take i).filter (falls hs))), .own (cardsD ((cs.take i).filter fun c => !falls hs c)), .rep (cardD c), .any]) rfl)) (fun j h => h) (by rw [List.length_map]; omega) fun j d ej => by
          rw [List.getElem?_map] at ej
          cases eh : hs[j]? with
          | none => rw [eh] at ej; cases ej
          | some h =>
            rw [eh] at ej
            cases ej
            obtain ⟨h0, h1⟩ := hi h (List.mem_of_getElem? eh)
            have h2 : h.toNat < c.2.cps.toList.length := by rw [Array.length_toList]; exact h1 c hmem
            refine ⟨_, tg_name, ?_⟩
            refine evd_call (eva_cons (evd_op (evd_var rfl) evd_int (op2_ixT (d := .str c.2) rfl)) (eva_cons (evd_var rfl) eva_nil)) ⟨c.2, h, c.2.cps.toList[h.toNat], rfl, rok, ?_, ?_⟩
            · have := atI_nat (List.getElem?_eq_getElem h2)
              rwa [Int.toNat_of_nonneg h0] at this
            · show Da.bl (c.2.cps.toList[h.toNat]? == some 118) = _
              rw [List.getElem?_eq_getElem h2]
              rfl
      refine q.is ?_
      unfold falls
      rw [List.all_map]; rfl
    · refine std_app rfl (evd_var rfl) ?_ ⟨.rep (cardD c), ?_⟩
      · rw [cardsD_len]
        exact Nat.lt_of_le_of_lt (Nat.le_trans (List.length_filter_le _ _) (Nat.le_trans (List.length_take_le' _ _) ok.len)) (by decide)
      · have e1 : cardsD ((cs.take (i + 1)).filter (falls hs)) = cardsD ((cs.take i).filter (falls hs)) ++ [cardD c] := by
          rw [List.take_add_one, ec]
          show cardsD ((cs.take i ++ [c]).filter _) = _
          rw [List.filter_append, List.filter_cons, if_pos hf]
          unfold cardsD; rw [List.map_append]; rfl
        have e2 : cardsD ((cs.take (i + 1)).filter fun c => !falls hs c) = cardsD ((cs.take i).filter fun c => !falls hs c) := by
          rw [List.take_add_one, ec]
          show cardsD ((cs.take i ++ [c]).filter _) = _
          rw [List.filter_append, List.filter_cons, if_neg (by rw [hf]; decide), List.filter_nil, List.append_nil]
        rw [e1, e2]; rfl
    · refine std_app rfl (evd_var rfl) ?_ ⟨.rep (cardD c), ?_⟩
      · rw [cardsD_len]
        exact Nat.lt_of_le_of_lt (Nat.le_trans (List.length_filter_le _ _) (Nat.le_trans (List.length_take_le' _ _) ok.len)) (by decide)
      · have e1 : cardsD ((cs.take (i + 1)).filter (falls hs)) = cardsD ((cs.take i).filter (falls hs)) := by
          rw [List.take_add_one, ec]
          show cardsD ((cs.take i ++ [c]).filter _) = _
          rw [List.filter_append, List.filter_cons, if_neg (by rw [hf]; decide), List.filter_nil, List.append_nil]
        have e2 : cardsD ((cs.take (i + 1)).filter fun c => !falls hs c) = cardsD ((cs.take i).filter fun c => !falls hs c) ++ [cardD c] := by
          rw [List.take_add_one, ec]
          show cardsD ((cs.take i ++ [c]).filter _) = _
          rw [List.filter_append, List.filter_cons, if_pos (by rw [hf]; decide)]
          unfold cardsD; rw [List.map_append]; rfl
        rw [e1, e2]; rfl
  · rintro δ1 ⟨e4, rfl⟩
    rw [cardsD_len, List.take_length]
    refine std_frz (i := 2) rfl (std_frz (i := 3) rfl ?_)
    exact std_ret (evd_tup (eva_cons (evd_make (evd_var rfl) (ok.filter _)) (eva_cons (evd_make (evd_var rfl) (ok.filter _)) eva_nil)) (Nat.le_add_left 2 99998)) rfl
def sp_drop (K : PySem.W.Frag) : Sp := PuSp K fun ds r => ∃ cs i, ds = [.pck cs, .int i] ∧ PackOk cs ∧ 0 ≤ i ∧ i < widthOf cs ∧ cs ≠ [] ∧ r = partsD cs [i]
def t_drop (K : PySem.W.Frag) : TS := (tSeq (tDrop (tCall (sp_need_pack K) [] E0 (tCons (tVar 0) tNil)))
  (tSeq (tDrop (tCall (sp_need_hole K) [] E0 (tCons (tVar 0) (tCons (tVar 1) tNil))))
  (tRet (tCall (sp_parted K) [] E0 (tCons (tVar 0) (tCons (tLst (tCons (tVar 1) tNil)) tNil))))))
def N_drop : List Str := ["pack", "hole"]
theorem inRow_of {cs : List (Str × Str)} {i : Int} (ok : PackOk cs) (h0 : 0 ≤ i) (h1 : i < widthOf cs) (ne : cs ≠ []) : inRow cs i := by
  obtain ⟨w, hw⟩ := ok.wd
  rw [widthOf_eq hw ne] at h1
  exact ⟨h0, fun c hc => by rw [hw c hc]; omega⟩
theorem pure_drop (h : sp_drop K vs H Q E) : t_drop K { nx := fun _ H' => Q .non H', rt := Q } (L2.start N_drop vs) H := by
  refine pu_body h (fun ds r ⟨_, _, e, _⟩ => by rw [e]; exact Nat.le_refl 2) ?_
  rintro _ _ ⟨cs, i, rfl, ok, h0, h1, ne, rfl⟩
  refine std_seq (std_drop (evd_call (eva_cons (evd_var rfl) eva_nil) ⟨cs, rfl, rfl⟩) (std_seq (std_drop (evd_call (eva_cons (evd_var rfl) (eva_cons (evd_var rfl) eva_nil)) ⟨cs, i, rfl, ok, h0, h1, rfl⟩) ?_)))
  exact std_ret (evd_call (eva_cons (evd_var rfl) (eva_cons (evo_lst (eva_cons (evd_var rfl) eva_nil) (Nat.le_add_left 1 99999)).frz eva_nil)) ⟨cs, true, [i], rfl, ok, Nat.le_add_left 1 999, fun h hh => by rw [List.mem_singleton.mp hh]; exact inRow_of ok h0 h1 ne, rfl⟩) rfl
end
end R
set_option maxHeartbeats 4123456
/-! PD: the law's box. -/
namespace R
open PySem L2
section
variable {K : PySem.W.Frag} {vs : List V} {H : Hp} {Q : VK} {E : XK} {δ : List En} {te : TE}
theorem ite_c {b : Bool} {p q : Prop} (h : b = true) (x : p) : if b = true then p else q := by rw [if_pos h]; exact x
theorem ite_d {b : Bool} {p q : Prop} (h : b = false) (x : q) : if b = true then p else q := by rw [h]; exact iteF x
def cellV (ka kb : Int) (ns : List Int) (k : Int) : Int := if k < ns.length then (ns[k.toNat]?).getD 0 else ka * k + kb
def sp_law_cell (K : PySem.W.Frag) (ka kb : Int) : Sp := PuSp K fun ds r => ∃ ns k, ds = [.scr ns, .int k] ∧ 0 ≤ k ∧ k < 1000 ∧ r = .int (cellV ka kb ns k)
def t_law_cell (K : PySem.W.Frag) (ka : Int) (kb : Int) : TS := (tSeq (tIfS (tTest (tOp (rI0 fun i j => .bl (decide (i < j))) (tVar 1) (tCB (rLenA K) (tCons (tVar 0) tNil)))) (tRet (tOp (rIxL K) (tVar 0) (tVar 1))) tNext)
  (tRet (tOp (rI0 fun i j => .int (i + j)) (tOp (rI CMul fun i j => .int (i * j)) (tC (.int ka)) (tVar 1)) (tC (.int kb)))))
def N_law_cell : List Str := ["script", "k"]
theorem pure_law_cell {ka kb : Int} (h : sp_law_cell K ka kb vs H Q E) : t_law_cell K ka kb { nx := fun _ H' => Q .non H', rt := Q } (L2.start N_law_cell vs) H := by
  refine pu_body h (fun ds r ⟨_, _, e, _⟩ => by rw [e]; exact Nat.le_refl 2) ?_
  rintro _ _ ⟨ns, k, rfl, h0, h1, rfl⟩
  refine std_seq (std_if (b := decide (k < (ns.length : Int))) (tvd_test (evd_op (evd_var rfl) (evd_cb (eva_cons (evd_var rfl) eva_nil) opn_lenC) op2_B0)) (fun e => ?_) fun e => std_next ?_)
  · have e := of_decide_eq_true e
    have hk : k.toNat < ns.length := by omega
    refine std_ret (evd_op (evd_var rfl) (evd_var rfl) (op2_ixC (n := ns[k.toNat]) ?_)) ?_
    · have := atI_nat (List.getElem?_eq_getElem hk)
      rwa [Int.toNat_of_nonneg h0] at this
    · unfold cellV
      rw [if_pos e, List.getElem?_eq_getElem hk]; rfl
  · have e := of_decide_eq_false e
    refine std_ret (evd_op (evd_op evd_int (evd_var rfl) (op2_I (.inr ⟨by omega, by omega⟩))) evd_int op2_I0) ?_
    unfold cellV
    rw [if_neg e]
def sp_law_box (K : PySem.W.Frag) : Sp := BnSp
def t_law_box (K : PySem.W.Frag) : TS := (tRet (tLst (tCons (tCB rMax2 (tCons (tC (.int 0)) (tCons (tOp (rI0 fun i j => .int (i - j)) (tVar 0) (tOp (rI CPow fun i j => .int (i ^ j.toNat)) (tC (.int 10)) (tC (.int 18)))) tNil))) (tCons (tOp (rI (fun _ j => 0 < j) fun i j => .int (i % j)) (tVar 0) (tC (.int 2147483629))) (tCons (tC (.int 0)) tNil)))))
def N_law_box : List Str := ["cell"]
theorem pure_law_box (h : sp_law_box K vs H Q E) : t_law_box K { nx := fun _ H' => Q .non H', rt := Q } (L2.start N_law_box vs) H := by
  obtain ⟨G, c, rfl, le, q⟩ := h
  have hm : 0 ≤ c % 2147483629 ∧ c % 2147483629 < 2147483629 := ⟨Int.emod_nonneg _ (by decide), Int.emod_lt_of_pos _ (by decide)⟩
  have e : EvO K (tLst (tCons (tCB rMax2 (tCons (tC (.int 0)) (tCons (tOp (rI0 fun i j => .int (i - j)) (tVar 0) (tOp (rI CPow fun i j => .int (i ^ j.toNat)) (tC (.int 10)) (tC (.int 18)))) tNil))) (tCons (tOp (rI (fun _ j => 0 < j) fun i j => .int (i % j)) (tVar 0) (tC (.int 2147483629))) (tCons (tC (.int 0)) tNil))))
      (envOf N_law_box ([Da.int c].map .rep)) [.int (if c - 10 ^ (18 : Int).toNat > 0 then c - 10 ^ (18 : Int).toNat else 0), .int (c % 2147483629), .int 0] :=
    evo_lst (eva_cons (evd_cb (eva_cons evd_int (eva_cons (evd_op (evd_var rfl) (evd_op evd_int evd_int (op2_I (by unfold CPow; decide))) op2_I0) eva_nil)) opn_max2) (eva_cons (evd_op (evd_var rfl) evd_int (op2_I (by decide))) (eva_cons evd_int eva_nil))) (Nat.le_add_left 3 99997)
  refine e none H none _ G H le (er_start (.cons (.int c) .nil) (Nat.le_refl 1)) _ fun l vs G' H' x n1 n2 n3 rs => ?_
  cases rs with
  | cons r1 rs => cases rs with
    | cons r2 rs => cases rs with
      | cons r3 rs =>
        cases rs
        rw [r1.intI, r2.intI, r3.intI] at n3
        refine q l G' H' _ _ x n1 n2 n3 ⟨?_, hm.1, hm.2, Int.le_refl 0, Int.le_refl 0⟩
        split <;> omega
def sp_law_take (K : PySem.W.Frag) : Sp := BxSp K (fun _ => 1) (fun ds => ∃ m : Int, ds = [.int m] ∧ 0 < m ∧ m ≤ 1000000) (fun ds r => ∃ m d : Int, ds = [.int m] ∧ r = .int d ∧ 0 ≤ d ∧ d < m)
def t_law_take (K : PySem.W.Frag) (kc : Int) : TS := (tSeq (tIfS (tTest (tOp (rI0 fun i j => .bl (decide (j < i))) (tOp (rIxL K) (tVar 0) (tC (.int 0))) (tC (.int 0)))) (tSeq (tAsg (tOp (rI (fun _ j => 0 < j) fun i j => .int (i % j)) (tOp (rIxL K) (tVar 0) (tC (.int 0))) (tVar 1)) (gName 4))
  (tSeq (tAsg (tOp (rI CDiv fun i j => .int (i / j)) (tOp (rIxL K) (tVar 0) (tC (.int 0))) (tVar 1)) (gSub (tVar 0) (tC (.int 0)) rSetL))
  (tRet (tVar 4)))) tNext)
  (tSeq (tAsg (tOp (rI0 fun i j => .int (i + j)) (tOp (rIxL K) (tVar 0) (tC (.int 2))) (tC (.int 1))) (gSub (tVar 0) (tC (.int 2)) rSetL))
  (tSeq (tAsg (tOp (rI (fun _ j => 0 < j) fun i j => .int (i % j)) (tOp (rI CPow fun i j => .int (i ^ j.toNat)) (tOp (rI0 fun i j => .int (i + j)) (tOp (rI0 fun i j => .int (i + j)) (tOp (rIxL K) (tVar 0) (tC (.int 1))) (tOp (rI CMul fun i j => .int (i * j)) (tC (.int 7919)) (tOp (rIxL K) (tVar 0) (tC (.int 2))))) (tC (.int kc))) (tC (.int 5))) (tC (.int 2147483647))) (gName 2))
  (tSeq (tAsg (tOp (rI (fun _ j => 0 < j) fun i j => .int (i % j)) (tOp (rI CPow fun i j => .int (i ^ j.toNat)) (tOp (rI0 fun i j => .int (i + j)) (tOp (rI0 fun i j => .int (i + j)) (tOp (rI CDiv fun i j => .int (i / j)) (tVar 2) (tC (.int 8))) (tOp (rI CMul fun i j => .int (i * j)) (tOp (rI CMul fun i j => .int (i * j)) (tC (.int 104729)) (tOp (rIxL K) (tVar 0) (tC (.int 2)))) (tOp (rIxL K) (tVar 0) (tC (.int 2))))) (tC (.int 11))) (tC (.int 3))) (tC (.int 2147483587))) (gName 3))
  (tRet (tOp (rI (fun _ j => 0 < j) fun i j => .int (i % j)) (tOp (rI0 fun i j => .int (i + j)) (tOp (rI CDiv fun i j => .int (i / j)) (tVar 2) (tC (.int 4))) (tOp (rI CMul fun i j => .int (i * j)) (tC (.int 536870909)) (tOp (rI CDiv fun i j => .int (i / j)) (tVar 3) (tC (.int 4))))) (tVar 1)))))))
def N_law_take : List Str := ["box", "many", "one", "two", "digit"]
theorem BoxStep.set {H : Hp} {b : Addr} {c0 c1 c2 : Int} {e0 e1 e2 : Int} (hb : H b = some (.lst [.int c0, .int c1, .int c2])) (h : ∀ n, BoxV c0 c1 c2 n → BoxV e0 e1 e2 (n + 1)) : BoxStep (some b) H (L2.upd H b (.lst [.int e0, .int e1, .int e2])) 1 := fun b' d0 d1 d2 n e hb' v => by
  cases e
  rw [hb] at hb'
  cases hb'
  exact ⟨e0, e1, e2, upd_same, h n v⟩
theorem val_I0 {σ : L2.St} {g : Int → Int → Int} {ta tb : TE} {i j : Int} (ha : Val ta σ H (.int i)) (hb : Val tb σ H (.int j)) : Val (tOp (rI0 fun i j => .int (g i j)) ta tb) σ H (.int (g i j)) := val_op ha hb fun Q q => ⟨i, j, rfl, rfl, q⟩
theorem val_B0 {σ : L2.St} {g : Int → Int → Bool} {ta tb : TE} {i j : Int} (ha : Val ta σ H (.int i)) (hb : Val tb σ H (.int j)) : Ans (tTest (tOp (rI0 fun i j => .bl (g i j)) ta tb)) σ H (g i j) := ans_cmp ha hb fun Q q => ⟨i, j, rfl, rfl, q⟩
theorem val_I {σ : L2.St} {C : Int → Int → Prop} {g : Int → Int → Int} {ta tb : TE} {i j : Int} (ha : Val ta σ H (.int i)) (hb : Val tb σ H (.int j)) (hc : C i j) : Val (tOp (rI C fun i j => .int (g i j)) ta tb) σ H (.int (g i j)) := val_op ha hb fun Q q => ⟨i, j, rfl, rfl, hc, q⟩
theorem val_at {σ : L2.St} {b : Addr} {i : Nat} {k : Int} {xs : List V} {v : V} (hs : σ[i]? = some (some (.ref b))) (hb : H b = some (.lst xs)) (e : atI xs k = some v) : Val (tOp (rIxL K) (tVar i) (tC (.int k))) σ H v :=
  val_op (val_var hs) val_c fun Q q => ⟨b, xs, k, v, rfl, rfl, SqL.of hb, e, q⟩
theorem pt_ret {te : TE} {D : Ends} {σ : L2.St} (h : te σ H D.rt) : tRet te D σ H := h
theorem ts_sub {σ : L2.St} {D : Ends} {b : Addr} {i : Nat} {k : Int} {xs : List V} {v : V} {te : TE} {j : Nat} (he : Val te σ H v) (hs : σ[i]? = some (some (.ref b))) (hb : H b = some (.lst xs)) (hj : ixN xs.length k = some j)
    (h : D.nx σ (upd H b (.lst (xs.set j v)))) : tAsg te (gSub (tVar i) (tC (.int k)) rSetL) D σ H := he _ ⟨_, hs, b, xs, k, j, rfl, rfl, hb, hj, h⟩
theorem ts_nm {σ : L2.St} {D : Ends} {i : Nat} {v : V} {te : TE} (he : Val te σ H v) (h : D.nx (σ.set i (some v)) H) : tAsg te (gName i) D σ H := he _ h
theorem pure_law_take {kc : Int} (hk : 0 ≤ kc ∧ kc ≤ 100000) (h : sp_law_take K vs H Q E) : t_law_take K kc { nx := fun _ H' => Q .non H', rt := Q } (L2.start N_law_take vs) H := by
  obtain ⟨G, b, us, ds, n, c0, c1, c2, rfl, le, g, hb, bv, hn, rs, ⟨m, rfl, hm0, hm1⟩, q⟩ := h
  cases rs with
  | cons r1 rs =>
    cases rs
    obtain rfl := r1.intI
    obtain ⟨p0, p1, p2, p3, p4⟩ := bv
    have hn : n + 1 ≤ 1000000 := hn
    have hne : H b ≠ none := by rw [hb]; exact fun z => nomatch z
    have s0 : (L2.start N_law_take [.ref b, .int m])[0]? = some (some (V.ref b)) := rfl
    have s1 : (L2.start N_law_take [.ref b, .int m])[1]? = some (some (V.int m)) := rfl
    have sl : (L2.start N_law_take [.ref b, .int m]).length = 5 := rfl
    generalize L2.start N_law_take [.ref b, .int m] = σ at s0 s1 sl
    unfold t_law_take
    refine pt_seq (pt_if (val_B0 (val_at s0 hb (v := .int c0) rfl) val_c _ ?_))
    by_cases hc : 0 < c0
    · refine ite_c (decide_eq_true hc) ?_
      refine pt_seq (ts_nm (val_I (val_at s0 hb (v := .int c0) rfl) (val_var s1) hm0) ?_)
      have s0' : (σ.set 4 (some (.int (c0 % m))))[0]? = some (some (V.ref b)) := by rw [List.getElem?_set_ne (by decide)]; exact s0
      have s1' : (σ.set 4 (some (.int (c0 % m))))[1]? = some (some (V.int m)) := by rw [List.getElem?_set_ne (by decide)]; exact s1
      refine pt_seq (ts_sub (val_I (val_at s0' hb (v := .int c0) rfl) (val_var s1') ⟨hm0, by omega⟩) s0' hb (j := 0) rfl ?_)
      refine ⟨.int (c0 % m), List.getElem?_set_self (by rw [sl]; decide), ?_⟩
      exact q _ (.int (c0 % m)) G _ (Ext.boxed le g hne) (BoxStep.set hb fun n bv => ⟨Int.ediv_nonneg p0 (Int.le_of_lt hm0), bv.2.1, bv.2.2.1, bv.2.2.2.1, by have := bv.2.2.2.2; omega⟩) (.int _) ⟨m, c0 % m, rfl, rfl, Int.emod_nonneg _ (by omega), Int.emod_lt_of_pos _ hm0⟩
    · refine ite_d (decide_eq_false hc) (pt_nxs ?_)
      have e0 : c0 = 0 := by omega
      refine pt_seq (ts_sub (val_I0 (val_at s0 hb (v := .int c2) rfl) val_c) s0 hb (j := 2) rfl ?_)
      have hb2 : upd H b (.lst ([V.int c0, .int c1, .int c2].set 2 (.int (c2 + 1)))) b = some (.lst [.int c0, .int c1, .int (c2 + 1)]) := upd_same
      generalize hH : upd H b (.lst ([V.int c0, .int c1, .int c2].set 2 (.int (c2 + 1)))) = H2 at hb2
      have hx : 0 ≤ c1 + 7919 * (c2 + 1) + kc ∧ c1 + 7919 * (c2 + 1) + kc < 2 ^ 50 := by omega
      dsimp only
      refine pt_seq (ts_nm (v := .int ((c1 + 7919 * (c2 + 1) + kc) ^ (5 : Int).toNat % 2147483647)) (val_I (val_I (val_I0 (val_I0 (val_at s0 hb2 (v := .int c1) rfl) (val_I val_c (val_at s0 hb2 (v := .int (c2 + 1)) rfl) (.inl (by decide)))) val_c) val_c ⟨by decide, by decide, by omega⟩) val_c (by decide)) ?_)
      have hone : 0 ≤ (c1 + 7919 * (c2 + 1) + kc) ^ (5 : Int).toNat % 2147483647 ∧ (c1 + 7919 * (c2 + 1) + kc) ^ (5 : Int).toNat % 2147483647 < 2147483647 := ⟨Int.emod_nonneg _ (by decide), Int.emod_lt_of_pos _ (by decide)⟩
      generalize (c1 + 7919 * (c2 + 1) + kc) ^ (5 : Int).toNat % 2147483647 = one at hone
      have s0' : (σ.set 2 (some (.int one)))[0]? = some (some (V.ref b)) := by rw [List.getElem?_set_ne (by decide)]; exact s0
      have s1' : (σ.set 2 (some (.int one)))[1]? = some (some (V.int m)) := by rw [List.getElem?_set_ne (by decide)]; exact s1
      have s2' : (σ.set 2 (some (.int one)))[2]? = some (some (V.int one)) := List.getElem?_set_self (by rw [sl]; decide)
      have sl' : (σ.set 2 (some (.int one))).length = 5 := by rw [List.length_set]; exact sl
      generalize σ.set 2 (some (.int one)) = σ2 at s0' s1' s2' sl'
      have hy : 0 ≤ 104729 * (c2 + 1) * (c2 + 1) ∧ 104729 * (c2 + 1) * (c2 + 1) ≤ 104729 * 1000000 * 1000000 := by
        have a1 : 0 ≤ (c2 + 1) * (c2 + 1) := Int.mul_nonneg (by omega) (by omega)
        have a2 : (c2 + 1) * (c2 + 1) ≤ 1000000 * 1000000 := Int.mul_le_mul (by omega) (by omega) (by omega) (by decide)
        rw [Int.mul_assoc]; omega
      dsimp only
      refine pt_seq (ts_nm (v := .int ((one / 8 + 104729 * (c2 + 1) * (c2 + 1) + 11) ^ (3 : Int).toNat % 2147483587)) (val_I (val_I (val_I0 (val_I0 (val_I (val_var s2') val_c ⟨by decide, by decide⟩) (val_I (val_I val_c (val_at s0' hb2 (v := .int (c2 + 1)) rfl) (.inl (by decide))) (val_at s0' hb2 (v := .int (c2 + 1)) rfl) (.inr ⟨by omega, by omega⟩))) val_c) val_c ⟨by decide, by decide, by omega⟩) val_c (by decide)) ?_)
      generalize (one / 8 + 104729 * (c2 + 1) * (c2 + 1) + 11) ^ (3 : Int).toNat % 2147483587 = two
      have s1'' : (σ2.set 3 (some (.int two)))[1]? = some (some (V.int m)) := by rw [List.getElem?_set_ne (by decide)]; exact s1'
      have s2'' : (σ2.set 3 (some (.int two)))[2]? = some (some (V.int one)) := by rw [List.getElem?_set_ne (by decide)]; exact s2'
      have s3'' : (σ2.set 3 (some (.int two)))[3]? = some (some (V.int two)) := List.getElem?_set_self (by rw [sl']; decide)
      dsimp only
      refine pt_ret (val_I (val_I0 (val_I (val_var s2'') val_c ⟨by decide, by decide⟩) (val_I val_c (val_I (val_var s3'') val_c ⟨by decide, by decide⟩) (.inl (by decide)))) (val_var s1'') hm0 _ ?_)
      have hH' : H2 = upd H b (.lst [.int c0, .int c1, .int (c2 + 1)]) := hH.symm
      rw [hH']
      exact q _ (.int _) G _ (Ext.boxed le g hne) (BoxStep.set hb fun n bv => ⟨p0, bv.2.1, bv.2.2.1, by omega, by have := bv.2.2.2.2; omega⟩) (.int _) ⟨m, _, rfl, rfl, Int.emod_nonneg _ (by omega), Int.emod_lt_of_pos _ hm0⟩
/-- a draw -/
theorem take_ev {i n : Nat} {m : Int} (hi : δ[i]? = some (.box n)) (h : Evd K te δ (.int m)) (hn : n + 1 ≤ 1000000) (h0 : 0 < m) (h1 : m ≤ 1000000) :
    Eve K (tCall (sp_law_take K) [] E0 (tCons (tVar i) (tCons te tNil))) δ 1 (fun r => ∃ d : Int, r = .int d ∧ 0 ≤ d ∧ d < m) :=
  (eve_call (c := fun _ => 1) hi (eva_cons h eva_nil) hn ⟨m, rfl, h0, h1⟩ (Nat.le_refl 1)).mono fun r ⟨m', d, e, p⟩ => by cases e; exact ⟨d, p⟩
def sp_law_even (K : PySem.W.Frag) : Sp := PuSp K fun ds r => ∃ d, ds = [d, d] ∧ Rpr d ∧ r = .bl true
def t_law_even (K : PySem.W.Frag) : TS := (tRet (tAndV (tOp (rEqD K) (tVar 0) (tVar 1)) (tOp rEq (tCB (rRepr K) (tCons (tVar 0) tNil)) (tCB (rRepr K) (tCons (tVar 1) tNil)))))
def N_law_even : List Str := ["told", "due"]
theorem pure_law_even (h : sp_law_even K vs H Q E) : t_law_even K { nx := fun _ H' => Q .non H', rt := Q } (L2.start N_law_even vs) H := by
  refine pu_body h (fun ds r ⟨_, e, _⟩ => by rw [e]; exact Nat.le_refl 2) ?_
  rintro _ _ ⟨d, rfl, rp, rfl⟩
  refine std_ret (d := .bl (true && decide ((toPy d).shown = (toPy d).shown))) ?_ (by rw [decide_eq_true rfl]; rfl)
  exact evd_and (evd_op (evd_var rfl) (evd_var rfl) (op2_eqSame rp.p rp.shaped)) fun _ => evd_op (evd_cb (eva_cons (evd_var rfl) eva_nil) (opn_repr rp)) (evd_cb (eva_cons (evd_var rfl) eva_nil) (opn_repr rp)) op2_eqS
end
end R
set_option maxHeartbeats 4123456
/-! PE: the law's names. -/
namespace R
open PySem L2
section
variable {K : PySem.W.Frag} {vs : List V} {H : Hp} {Q : VK} {E : XK} {δ : List En} {te : TE}
theorem str_ext {a b : Str} (h : a.cps.toList = b.cps.toList) : a = b := by
  cases a; cases b
  exact congrArg Str.mk (Array.toList_inj.mp h)
theorem cp_app (a b : Str) : (a ++ b).cps.toList = a.cps.toList ++ b.cps.toList := by
  show (a.cps ++ b.cps).toList = _
  rw [Array.toList_append]
theorem str_len (a : Str) : a.length = a.cps.toList.length := by rw [Array.length_toList]; rfl
theorem cp_sign (c : Nat) : (⟨#[c]⟩ : Str).cps.toList = [c] := rfl
theorem cp_fold : ∀ (l : List (Array Nat)) (acc : Array Nat), (l.foldl (· ++ ·) acc).toList = acc.toList ++ (l.map Array.toList).flatten
  | [], acc => by simp
  | x :: l, acc => by
    rw [List.foldl_cons, cp_fold l, Array.toList_append, List.map_cons, List.flatten_cons, List.append_assoc]
theorem cp_rep1 (c k : Nat) : (repS ⟨#[c]⟩ k).cps.toList = List.replicate k c := by
  show (List.foldl (· ++ ·) #[] (List.replicate k #[c])).toList = _
  rw [cp_fold, List.map_replicate]
  induction k with
  | zero => rfl
  | succ k ih =>
    rw [List.replicate_succ, List.flatten_cons, List.replicate_succ]
    have : (#[] : Array Nat).toList ++ (List.replicate k [c]).flatten = List.replicate k c := ih
    show [c] ++ (List.replicate k [c]).flatten = _
    have h2 : (List.replicate k [c]).flatten = List.replicate k c := this
    rw [h2]; rfl
theorem cp_join : ∀ cs : List Nat, (Str.join ⟨#[]⟩ (cs.map fun c => (⟨#[c]⟩ : Str))).cps.toList = cs
  | [] => rfl
  | [c] => rfl
  | c :: d :: cs => by
    show ((⟨#[c]⟩ : Str) ++ ⟨#[]⟩ ++ Str.join ⟨#[]⟩ ((d :: cs).map fun c => (⟨#[c]⟩ : Str))).cps.toList = _
    rw [cp_app, cp_app, cp_join (d :: cs)]; rfl
theorem nil_text : ("" : Str) = ⟨#[]⟩ := by decide +kernel
theorem lift_list {α : Type} {mk : α → Da} {p : α → Prop} : ∀ {rs : List Da}, (∀ (i : Nat) r, rs[i]? = some r → ∃ a, r = mk a ∧ p a) → ∃ as : List α, rs = as.map mk ∧ ∀ a ∈ as, p a
  | [], _ => ⟨[], rfl, fun a h => nomatch h⟩
  | r :: rs, h => by
    obtain ⟨a, rfl, pa⟩ := h 0 r rfl
    obtain ⟨as, rfl, pas⟩ := lift_list (rs := rs) fun i r e => h (i + 1) r e
    refine ⟨a :: as, rfl, fun b hb => ?_⟩
    rcases List.mem_cons.mp hb with rfl | hb
    · exact pa
    · exact pas b hb
def abcAt (i : Nat) : Nat := (abcS.cps.toList[i]?).getD 0
theorem abc_len : abcS.cps.toList.length = 26 := by decide +kernel
theorem abc_size : abcS.length ≤ 100000 := by decide +kernel
theorem abc_get {i : Nat} (h : i < 26) : abcS.cps.toList[i]? = some (abcAt i) := by
  unfold abcAt
  rw [List.getElem?_eq_getElem (by rw [abc_len]; exact h)]; rfl
theorem abc_mem {i : Nat} (h : i < 26) : abcAt i ∈ abcS.cps.toList := List.mem_of_getElem? (abc_get h)
theorem abc_inj0 : ∀ i j : Fin 26, abcAt i = abcAt j → i = j := by decide +kernel
theorem abc_inj {i j : Nat} (hi : i < 26) (hj : j < 26) (h : abcAt i = abcAt j) : i = j := Fin.mk.inj (abc_inj0 ⟨i, hi⟩ ⟨j, hj⟩ h)
theorem abc_ix {i : Int} (h0 : 0 ≤ i) (h1 : i < 26) : atI abcS.cps.toList i = some (abcAt i.toNat) := by
  have := atI_nat (abc_get (i := i.toNat) (by omega))
  rwa [Int.toNat_of_nonneg h0] at this
def wordS (f k : Int) : Str := ⟨#[abcAt ((f + 7 * k) % 26).toNat]⟩ ++ ⟨#[abcAt (k / 26).toNat]⟩
def longS (stem : Str) (a : Int) (z : Str) : Str := cutS stem none (some a) ++ z ++ cutS stem (some a) none
theorem cp_cut1 {stem : Str} {a : Int} (h0 : 0 ≤ a) : (cutS stem none (some a)).cps.toList = stem.cps.toList.take a.toNat := by
  obtain ⟨n, rfl⟩ := Int.eq_ofNat_of_zero_le h0
  show ((stem.cps.toList.drop 0).take (HT.sIx stem.length stem.length (some (n : Int)) - 0)) = _
  rw [HT.sIx_nat, List.drop_zero, Nat.sub_zero, str_len, ← List.take_eq_take_min]; rfl
theorem cp_cut2 {stem : Str} {a : Int} (h0 : 0 ≤ a) : (cutS stem (some a) none).cps.toList = stem.cps.toList.drop a.toNat := by
  obtain ⟨n, rfl⟩ := Int.eq_ofNat_of_zero_le h0
  show ((stem.cps.toList.drop (HT.sIx stem.length 0 (some (n : Int)))).take (stem.length - HT.sIx stem.length 0 (some (n : Int)))) = _
  rw [HT.sIx_nat, str_len]
  rw [List.take_of_length_le (by rw [List.length_drop]; exact Nat.le_refl _)]
  show List.drop (min n stem.cps.toList.length) _ = List.drop n _
  by_cases h : n ≤ stem.cps.toList.length
  · rw [Nat.min_eq_left h]
  · rw [Nat.min_eq_right (by omega), List.drop_length, List.drop_eq_nil_of_le (by omega)]
theorem long_cp {stem z : Str} {a : Int} (h0 : 0 ≤ a) : (longS stem a z).cps.toList = stem.cps.toList.take a.toNat ++ z.cps.toList ++ stem.cps.toList.drop a.toNat := by
  unfold longS
  rw [cp_app, cp_app, cp_cut1 h0, cp_cut2 h0]
theorem word_cp (f k : Int) : (wordS f k).cps.toList = [abcAt ((f + 7 * k) % 26).toNat, abcAt (k / 26).toNat] := by
  unfold wordS
  rw [cp_app]; rfl
theorem nodup_range {α : Type} {n : Nat} {g : Nat → α} (h : ∀ i j, i < n → j < n → g i = g j → i = j) : ((List.range n).map g).Nodup := by
  refine List.pairwise_iff_getElem.mpr fun i j hi hj hij e => ?_
  rw [List.getElem_map, List.getElem_map, List.getElem_range, List.getElem_range] at e
  rw [List.length_map, List.length_range] at hi hj
  have := h i j hi hj e
  omega
theorem mem_range {α : Type} {n : Nat} {g : Nat → α} {z : α} (h : z ∈ (List.range n).map g) : ∃ i, i < n ∧ z = g i := by
  obtain ⟨i, hi, rfl⟩ := List.mem_map.mp h
  exact ⟨i, List.mem_range.mp hi, rfl⟩
structure NamesOk (many : Int) (zs : List Str) : Prop where
  len : zs.length = many.toNat
  nd : zs.Nodup
  ok : ∀ z ∈ zs, nameOk z
theorem names_short {f many : Int} (h0 : 0 ≤ f) (h1 : f < 26) (hm : many < 9) : NamesOk many ((List.range many.toNat).map fun (i : Nat) => repS ⟨#[abcAt f.toNat]⟩ ((0 + (i : Int)) + 1).toNat) := by
  refine ⟨by rw [List.length_map, List.length_range], nodup_range fun i j hi hj e => ?_, fun z hz => ?_⟩
  · have e := congrArg Str.length e
    rw [repS_len, repS_len] at e
    simp only [show (⟨#[abcAt f.toNat]⟩ : Str).length = 1 from rfl, Nat.mul_one] at e
    omega
  · obtain ⟨i, hi, rfl⟩ := mem_range hz
    have el : (repS ⟨#[abcAt f.toNat]⟩ ((0 + (i : Int)) + 1).toNat).length = ((0 + (i : Int)) + 1).toNat := by
      rw [repS_len]
      show _ * 1 = _
      rw [Nat.mul_one]
    refine ⟨by rw [el]; omega, by rw [el]; omega, fun c hc => ?_⟩
    rw [cp_rep1] at hc
    rw [(List.mem_replicate.mp hc).2]
    exact abc_mem (by omega)
theorem names_long {f a many : Int} {stem : Str} (h0 : 0 ≤ f) (ha : 0 ≤ a) (hm : many ≤ 60) (hs : stem.length ≤ 6) (hc : ∀ c ∈ stem.cps.toList, c ∈ abcS.cps.toList) :
    NamesOk many ((List.range many.toNat).map fun (i : Nat) => longS stem a (wordS f (0 + (i : Int)))) := by
  refine ⟨by rw [List.length_map, List.length_range], nodup_range fun i j hi hj e => ?_, fun z hz => ?_⟩
  · have e := congrArg (fun z : Str => z.cps.toList) e
    simp only [long_cp ha, word_cp] at e
    have e2 := List.append_cancel_left (List.append_cancel_right e)
    injection e2 with e3 e4
    injection e4 with e5 _
    have x1 := abc_inj (by omega) (by omega) e3
    have x2 := abc_inj (by omega) (by omega) e5
    omega
  · obtain ⟨i, hi, rfl⟩ := mem_range hz
    have el : (longS stem a (wordS f (0 + (i : Int)))).length = stem.length + 2 := by
      rw [str_len, long_cp ha, word_cp, str_len, List.length_append, List.length_append, List.length_take, List.length_drop]
      simp only [List.length_cons, List.length_nil]
      omega
    refine ⟨by rw [el]; omega, by rw [el]; omega, fun c hcc => ?_⟩
    rw [long_cp ha, word_cp] at hcc
    rcases List.mem_append.mp hcc with hcc | hcc
    · rcases List.mem_append.mp hcc with hcc | hcc
      · exact hc c (List.mem_of_mem_take hcc)
      · rcases List.mem_cons.mp hcc with rfl | hcc
        · exact abc_mem (by omega)
        · rw [List.mem_singleton.mp hcc]
          exact abc_mem (by omega)
    · exact hc c (List.mem_of_mem_drop hcc)
def sp_law_names (K : PySem.W.Frag) : Sp := BxSp K (fun _ => 10) (fun ds => ∃ m : Int, ds = [.int m] ∧ 0 ≤ m ∧ m ≤ 60) (fun ds r => ∃ (m : Int) (zs : List Str), ds = [.int m] ∧ r = .lst (zs.map .str) ∧ NamesOk m zs)
def t_law_names (K : PySem.W.Frag) : TS := (tSeq (tAsg (tC (.str "abcdefghijklmnopqrstuvwxyz")) (gName 2))
  (tSeq (tAsg (tTup (tCons (tCall (sp_law_take K) [] E0 (tCons (tVar 0) (tCons (tC (.int 26)) tNil))) (tCons (tCall (sp_law_take K) [] E0 (tCons (tVar 0) (tCons (tC (.int 6)) tNil))) (tCons (tCall (sp_law_take K) [] E0 (tCons (tVar 0) (tCons (tC (.int 3)) tNil))) tNil)))) (gTup K 3 (gCons (gName 5) (gCons (gName 6) (gCons (gName 7) gNil)))))
  (tSeq (tAsg (tBM K "str" (rJoin K) (tC (.str "")) (tCons (tLc (iRng1 (tCons (tCall (sp_law_take K) [] E0 (tCons (tVar 0) (tCons (tC (.int 7)) tNil))) tNil)) (gName 8) tYes (tOp rIxS (tVar 2) (tCall (sp_law_take K) [] E0 (tCons (tVar 0) (tCons (tC (.int 26)) tNil)))) [8]) tNil)) (gName 3))
  (tSeq (tIfS (tAnd (tTest (tOp rEq (tVar 7) (tC (.int 0)))) (tTest (tOp (rI0 fun i j => .bl (decide (i < j))) (tVar 1) (tC (.int 9))))) (tRet (tLc (iRng1 (tCons (tVar 1) tNil)) (gName 8) tYes (tOp rMulS (tOp rIxS (tVar 2) (tVar 5)) (tOp (rI0 fun i j => .int (i + j)) (tVar 8) (tC (.int 1)))) [8])) tNext)
  (tSeq (tAsg (tLc (iRng1 (tCons (tVar 1) tNil)) (gName 8) tYes (tOp rAddS (tOp rIxS (tVar 2) (tOp (rI (fun _ j => 0 < j) fun i j => .int (i % j)) (tOp (rI0 fun i j => .int (i + j)) (tVar 5) (tOp (rI CMul fun i j => .int (i * j)) (tC (.int 7)) (tVar 8))) (tC (.int 26)))) (tOp rIxS (tVar 2) (tOp (rI CDiv fun i j => .int (i / j)) (tVar 8) (tC (.int 26))))) [8]) (gName 4))
  (tRet (tLc (iList K (tVar 4)) (gName 9) tYes (tOp rAddS (tOp rAddS (tSl rSlS (tVar 3) tNoPart (tPart (tVar 6))) (tVar 9)) (tSl rSlS (tVar 3) (tPart (tVar 6)) tNoPart)) [9])))))))
def N_law_names : List Str := ["box", "many", "letters", "stem", "words", "first", "at", "way", "k", "word"]
theorem irng_map {n : Nat} {f : Da → Da} {g : Nat → Da} (h : ∀ i : Nat, i < n → f (.int (0 + (i : Int))) = g i) : (irng 0 n).map f = (List.range n).map g := by
  unfold irng
  rw [List.map_map]
  exact List.map_congr_left fun i hi => h i (List.mem_range.mp hi)
theorem pure_law_names (h : sp_law_names K vs H Q E) : t_law_names K { nx := fun _ H' => Q .non H', rt := Q } (L2.start N_law_names vs) H := by
  refine bx_body h (fun ds ⟨_, e, _⟩ => by rw [e]; exact Nat.le_add_left 2 8) ?_
  rintro n _ hn ⟨m, rfl, m0, m1⟩
  have hn : n + 10 ≤ 1000000 := hn
  refine std_seq (std_asg evd_str (std_seq ?_))
  refine std_asgTE (c := 1 + (1 + (1 + 0))) (P := fun d => ∃ f a w : Int, d = .tup [.int f, .int a, .int w] ∧ (0 ≤ f ∧ f < 26) ∧ (0 ≤ a ∧ a < 6) ∧ (0 ≤ w ∧ w < 3)) (js := [5] ++ ([6] ++ ([7] ++ [])))
    (eve_tup (eveA_cons (take_ev rfl evd_int (by omega) (by decide) (by decide)) fun _ => eveA_cons (take_ev rfl evd_int (by omega) (by decide) (by decide)) fun _ => eveA_cons (take_ev rfl evd_int (by omega) (by decide) (by decide)) fun _ => eveA_nil) ?_) ?_
  · rintro ds ⟨_, _, rfl, ⟨f, rfl, hf⟩, _, _, rfl, ⟨a, rfl, ha⟩, _, _, rfl, ⟨w, rfl, hw⟩, rfl⟩
    exact ⟨Nat.le_add_left 3 99997, f, a, w, rfl, hf, ha, hw⟩
  rintro _ ⟨f, a, w, rfl, hf, ha, hw⟩
  refine ⟨_, tg_tup (tgs_cons tg_name (tgs_cons tg_name (tgs_cons tg_name tgs_nil))) rfl, std_seq ?_⟩
  refine std_asgE (c := 7) (P := fun d => ∃ z : Str, d = .str z ∧ z.length ≤ 6 ∧ ∀ c ∈ z.cps.toList, c ∈ abcS.cps.toList) ?_ ?_
  · refine eve_join evd_str (EveO.frz (eveo_lcE (c0 := 1) (c := 1) (N := 6) (js := [8]) (PL := fun ds => ∃ k : Int, ds = irng 0 k.toNat ∧ k < 7) (PT := fun _ _ r => ∃ ch : Nat, r = .str ⟨#[ch]⟩ ∧ ch ∈ abcS.cps.toList)
      (src_rng1E (take_ev rfl evd_int (by show n + _ + 1 ≤ _; omega) (by decide) (by decide)) fun d ⟨k, e, k0, k1⟩ => ⟨k, e, by omega, by omega, k1⟩) (fun j h => h) (fun ds ⟨k, e, hk⟩ => by rw [e, irng_len]; omega) (by decide) ?_)) ?_
    · rintro _ ⟨k, rfl, hk⟩ i d e
      obtain ⟨hi, rfl⟩ := irng_at e
      refine ⟨_, tg_name, ?_⟩
      refine (eve_op (c1 := 0) (c2 := 1) (evd_var (d := .str abcS) rfl).eve (take_ev (n := n + (1 + (1 + (1 + 0))) + (1 + i * 1) + 0) (m := 26) rfl evd_int (by omega) (by decide) (by decide)) ?_)
      rintro _ _ rfl ⟨x, rfl, x0, x1⟩
      exact ⟨_, op2_ixS abc_size (abc_ix x0 x1), _, rfl, abc_mem (by omega)⟩
    · rintro _ ⟨rs, rfl, _, ⟨k, rfl, hk⟩, hl, hP⟩
      obtain ⟨chs, rfl, hc⟩ := lift_list (mk := fun c => Da.str ⟨#[c]⟩) hP
      rw [List.length_map, irng_len] at hl
      refine ⟨chs.map fun c => ⟨#[c]⟩, by rw [List.map_map]; rfl, ?_, _, rfl, ?_, ?_⟩
      · rw [List.map_map, List.length_map]
        have e1 : (chs.map ((fun x : Str => x.length) ∘ fun c => (⟨#[c]⟩ : Str))).sum = chs.length := by
          have : ((fun x : Str => x.length) ∘ fun c => (⟨#[c]⟩ : Str)) = fun _ => 1 := rfl
          rw [this, List.map_const', List.sum_replicate_nat, Nat.mul_one]
        rw [e1, nil_text]
        show chs.length + chs.length * 0 ≤ _
        omega
      · rw [nil_text, str_len, cp_join]; omega
      · rw [nil_text, cp_join]; exact hc
  rintro _ ⟨stem, rfl, hs, hc⟩
  refine std_seq (std_if (b := decide (w = 0) && decide (m < 9)) (tvd_and (tvd_test (evd_op (evd_var rfl) evd_int op2_eqI)) fun _ => tvd_test (evd_op (evd_var rfl) evd_int op2_B0)) (fun e => ?_) fun _ => std_next (std_seq ?_))
  · have hm9 : m < 9 := of_decide_eq_true (Bool.and_eq_true_iff.mp e).2
    refine std_ret (EvO.frz (evo_map (js := [8]) (f := fun d => match d with | .int k => .str (repS ⟨#[abcAt f.toNat]⟩ (k + 1).toNat) | _ => .non) (src_rng1 (n := m) (eva_cons (evd_var rfl) eva_nil) (by omega) (by omega)) (fun j h => h) (by rw [irng_len]; omega) ?_)) ?_
    · rintro i d e
      obtain ⟨hi, rfl⟩ := irng_at e
      refine ⟨_, tg_name, evd_op (evd_op (evd_var rfl) (evd_var rfl) (op2_ixS abc_size (abc_ix hf.1 hf.2))) (evd_op (evd_var rfl) evd_int op2_I0) (op2_mulS (by omega) (by omega) (by show 1 ≤ 1000; omega))⟩
    · refine ⟨⟨m, _, rfl, ?_, names_short hf.1 hf.2 hm9⟩, n + (1 + (1 + (1 + 0))) + 7, by omega, rfl⟩
      rw [List.map_map]
      exact congrArg Da.lst (irng_map fun i hi => rfl)
  · refine std_asg (EvO.frz (evo_map (js := [8]) (f := fun d => match d with | .int k => .str (wordS f k) | _ => .non) (src_rng1 (n := m) (eva_cons (evd_var rfl) eva_nil) (by omega) (by omega)) (fun j h => h) (by rw [irng_len]; omega) ?_)) ?_
    · rintro i d e
      obtain ⟨hi, rfl⟩ := irng_at e
      refine ⟨_, tg_name, evd_op (evd_op (evd_var rfl) (evd_op (evd_op (evd_var rfl) (evd_op evd_int (evd_var rfl) (op2_I (.inl (by decide)))) op2_I0) evd_int (op2_I (by decide))) (op2_ixS abc_size (abc_ix (Int.emod_nonneg _ (by decide)) (Int.emod_lt_of_pos _ (by decide))))) (evd_op (evd_var rfl) (evd_op (evd_var rfl) evd_int (op2_I ⟨by decide, by decide⟩)) (op2_ixS abc_size (abc_ix (by omega) (by omega)))) (op2_addS (by show 1 + 1 ≤ 100000; omega))⟩
    · refine std_ret (EvO.frz (evo_map (js := [9]) (f := fun d => match d with | .str z => .str (longS stem a z) | _ => .non) (src_list (evd_var rfl)) (fun j h => h) (by rw [List.length_map, irng_len]; omega) ?_)) ?_
      · rintro i d e
        rw [List.getElem?_map] at e
        cases e2 : (irng 0 m.toNat)[i]? with
        | none => rw [e2] at e; cases e
        | some d2 =>
          rw [e2] at e
          obtain ⟨hi, rfl⟩ := irng_at e2
          cases e
          have l1 : (cutS stem none (some a)).length ≤ 6 := by rw [str_len, cp_cut1 ha.1, List.length_take]; rw [str_len] at hs; omega
          have l2 : (cutS stem (some a) none).length ≤ 6 := by rw [str_len, cp_cut2 ha.1, List.length_drop]; rw [str_len] at hs; omega
          have l3 : (wordS f (0 + (i : Int))).length = 2 := by rw [str_len, word_cp]; rfl
          have l4 : (cutS stem none (some a) ++ wordS f (0 + (i : Int))).length ≤ 8 := by rw [str_len, cp_app, List.length_append, ← str_len, ← str_len]; omega
          refine ⟨_, tg_name, evd_op (evd_op (evd_slS (evd_var rfl) ovd_none (ovd_some (evd_var rfl)) (by omega)) (evd_var rfl) (op2_addS (by omega))) (evd_slS (evd_var rfl) (ovd_some (evd_var rfl)) ovd_none (by omega)) (op2_addS (by omega))⟩
      · refine ⟨⟨m, _, rfl, ?_, names_long (f := f) (a := a) (many := m) (stem := stem) hf.1 ha.1 m1 hs hc⟩, n + (1 + (1 + (1 + 0))) + 7, by omega, rfl⟩
        rw [List.map_map, List.map_map]
        exact congrArg Da.lst (irng_map fun i hi => rfl)
structure RowW (w : Nat) (z : Str) : Prop where
  len : z.length = w
  ok : ∀ c ∈ z.cps.toList, c = 111 ∨ c = 118
theorem toPys_map (ds : List Da) : toPys ds = ds.map toPy := by
  induction ds with
  | nil => rfl
  | cons d ds ih => show toPy d :: toPys ds = _; rw [ih]; rfl
theorem eqv_str (x y : Str) : PyData.eqv (.str x) (.str y) = decide (x = y) := by
  show (x == y) = _
  by_cases h : x = y
  · rw [h, decide_eq_true rfl]; exact beq_self_eq_true y
  · rw [decide_eq_false h]; exact beq_eq_false_iff_ne.mpr h
theorem plns_all : ∀ {ds : List Da}, (∀ d ∈ ds, pln d = true) → plns ds = true
  | [], _ => rfl
  | d :: ds, h => by
    show (pln d && plns ds) = true
    rw [h d List.mem_cons_self, plns_all fun e he => h e (List.mem_cons_of_mem _ he)]; rfl
theorem shws_all : ∀ {ds : List Da}, (∀ d ∈ ds, shw d = true) → shws ds = true
  | [], _ => rfl
  | d :: ds, h => by
    show (shw d && shws ds) = true
    rw [h d List.mem_cons_self, shws_all fun e he => h e (List.mem_cons_of_mem _ he)]; rfl
theorem deps_all {n : Nat} : ∀ {ds : List Da}, (∀ d ∈ ds, dep d ≤ n) → deps ds ≤ n
  | [], _ => Nat.zero_le _
  | d :: ds, h => Nat.max_le.mpr ⟨h d List.mem_cons_self, deps_all fun e he => h e (List.mem_cons_of_mem _ he)⟩
theorem costs_all {n : Nat} : ∀ {ds : List Da}, (∀ d ∈ ds, cost d ≤ n) → costs ds ≤ ds.length * (n + 2)
  | [], _ => by show 0 ≤ _; omega
  | d :: ds, h => by
    have a := h d List.mem_cons_self
    have b := costs_all (n := n) (ds := ds) fun e he => h e (List.mem_cons_of_mem _ he)
    show cost d + 2 + costs ds ≤ (ds.length + 1) * (n + 2)
    rw [Nat.succ_mul]; omega
theorem strOk_of {z : Str} (h : ∀ c ∈ z.cps.toList, c < 0x110000) : PyData.strOk z = true := Array.all_eq_true'.mpr fun c hc => decide_eq_true (h c (Array.mem_toList_iff.mpr hc))
theorem abc_lt : ∀ c ∈ abcS.cps.toList, c < 0x110000 := by decide +kernel
theorem nameOk.str {z : Str} (h : nameOk z) : PyData.strOk z = true := strOk_of fun c hc => abc_lt c (h.2.2 c hc)
theorem rowOk.str {z : Str} (h : rowOk z) : PyData.strOk z = true := strOk_of fun c hc => by rcases h.2.2 c hc with rfl | rfl <;> decide
end
end R
set_option maxHeartbeats 4123456
/-! PF: drop_all, the own error. -/
namespace R
open PySem L2
section
variable {K : PySem.W.Frag} {vs : List V} {H : Hp} {Q : VK} {E : XK} {δ : List En} {te ta tb : TE} {d d1 d2 : Da} {ds : List Da} {D : Po}
/-- the own error -/
structure ErC (K : PySem.W.Frag) (C : Addr) : Prop where
  o : OexC K C
  no : PySem.W.findIn K (.ref C) "found" = some none
  me : PySem.W.exmOne K (.ref C) (.ref C) = some true
abbrev BH (K : PySem.W.Frag) : Addr := He.ga K "BadHole"
def sp_BadHole_Dinit (K : PySem.W.Frag) : Sp := fun vs H Q _ => ∃ (a C : Addr) (y : V), vs = [.ref a, y] ∧ H a = some (exo a C none) ∧ OexC K C ∧ PySem.W.findIn K (.ref C) "found" = some none ∧
  ∀ dx, H dx = none → dx ≠ a → Q .non (upd (upd H dx (exd dx [(("found" : Str), y)])) a (exo a C (some dx)))
def t_BadHole_Dinit (K : PySem.W.Frag) : TS := tSeq (tDrop (tVeI K (tCons (tVar 0) (tCons (tC (.str "no such hole")) tNil)))) (tOst K "found" (tVar 0) (tVar 1))
def N_BadHole_Dinit : List Str := ["self", "found"]
theorem pure_BadHole_Dinit (h : sp_BadHole_Dinit K vs H Q E) : t_BadHole_Dinit K { nx := fun _ H' => Q .non H', rt := Q } (L2.start N_BadHole_Dinit vs) H := by
  obtain ⟨a, C, y, rfl, hx, oc, no, q⟩ := h
  exact ⟨_, rfl, a, C, [.str "no such hole"], rfl, (by decide : 1 ≤ 1000), oc, hx, _, rfl, _, rfl, a, C, rfl, oc, no, .inl ⟨hx, fun dx h1 h2 => q dx h1 h2⟩⟩
/-- raise BadHole(e) -/
def tRaiseF (K : PySem.W.Frag) (x : Str) (E : XK) (te : TE) : TS := fun _ σ H => tMkO (He.ga K x) (sp_BadHole_Dinit K) [] (tCons te tNil) σ H fun cls d H' => E cls d H'
/-- the error's way out: its dict is new -/
def Out (C : Addr) (E : XK) (y : V) (H : Hp) : Prop := ∀ d, H d = none → E (.ref C) (some d) (upd H d (.xd [(("found" : Str), y)]))
theorem raise_out {σ : L2.St} {Df : Ends} {y : V} {i : Nat} (T : ErC K (BH K)) (hs : σ[i]? = some (some y)) (h : Out (BH K) E y H) : tRaiseF K "BadHole" E (tVar i) Df σ H := by
  refine ⟨y, hs, (by decide : 1 ≤ 1000), fun a ha => ⟨a, BH K, y, rfl, upd_same, T.o, T.no, fun dx hdx ne => ⟨rfl, dx, [(("found" : Str), y)], upd_same, by rw [upd_ne ne]; exact upd_same, ?_, ?_⟩⟩⟩
  · rw [upd_ne ne] at hdx; exact hdx
  · rw [upd_ne ne] at hdx
    have e : upd (del (upd (upd (upd H a (exo a (BH K) none)) dx (exd dx [(("found" : Str), y)])) a (exo a (BH K) (some dx))) a) dx (.xd [(("found" : Str), y)]) = upd H dx (.xd [(("found" : Str), y)]) := by
      funext b
      by_cases hb : b = dx
      · rw [hb, upd_same, upd_same]
      · rw [upd_ne hb, upd_ne hb]
        by_cases hba : b = a
        · rw [hba, del_same, ha]
        · rw [del_ne hba, upd_ne hba, upd_ne hb, upd_ne hba]
    rw [e]
    exact h dx hdx
def sp_drop_allP (K : PySem.W.Frag) : Sp := PuSp K fun ds r => ∃ cs b hs, ds = [.pck cs, seqD b (hs.map .int)] ∧ PackOk cs ∧ cs ≠ [] ∧ hs.length ≤ 24 ∧ (∀ h ∈ hs, 0 ≤ h ∧ h < widthOf cs) ∧ r = partsD cs hs
def sp_drop_all (K : PySem.W.Frag) : Sp := fun vs H Q E => sp_drop_allP K vs H Q E ∨ ∃ G p y cs ds, vs = [p, y] ∧ Same G H ∧ Rep K G p (.pck cs) ∧ Rep K G y (.lst ds) ∧ 24 < ds.length ∧ ∀ G' H', Ext none G H G' H' → Out (BH K) E y H'
def t_drop_all (K : PySem.W.Frag) (E : XK) : TS := (tSeq (tDrop (tCall (sp_need_pack K) [] E0 (tCons (tVar 0) tNil)))
  (tSeq (tIfS (tNot (tB (tCall (sp_is_list K) [] E0 (tCons (tVar 1) (tCons (tC (.int 24)) tNil))))) (tRaiseF K "BadHole" E (tVar 1)) tNext)
  (tSeq (tFor (iSeq K (tVar 1)) (gName 2) (tDrop (tCall (sp_need_hole K) [] E0 (tCons (tVar 0) (tCons (tVar 2) tNil)))))
  (tRet (tCall (sp_parted K) [] E0 (tCons (tVar 0) (tCons (tVar 1) tNil)))))))
def N_drop_all : List Str := ["pack", "holes", "hole"]
theorem pure_drop_all (T : ErC K (BH K)) (h : sp_drop_all K vs H Q E) : t_drop_all K E { nx := fun _ H' => Q .non H', rt := Q } (L2.start N_drop_all vs) H := by
  rcases h with h | ⟨G, p, y, cs, ds, rfl, le, rp, ry, hl, q⟩
  · refine pu_body h (fun ds r ⟨_, _, _, e, _⟩ => by rw [e]; exact Nat.le_add_left 2 1) ?_
    rintro _ _ ⟨cs, b, hs, rfl, ok, ne, hl, hi, rfl⟩
    refine std_seq (std_drop (evd_call (eva_cons (evd_var rfl) eva_nil) ⟨cs, rfl, rfl⟩) (std_seq ?_))
    refine std_if (b := !decide (((hs.map Da.int).length : Int) ≤ 24)) (tvd_not (tvd_B (evd_call (eva_cons (evd_var rfl) (eva_cons evd_int eva_nil)) ⟨b, _, 24, rfl, rfl⟩))) (fun e => absurd e ?_) fun _ => std_next (std_seq ?_)
    · rw [decide_eq_true (by rw [List.length_map]; omega)]; decide
    · refine std_for (js := [2]) (src_seq (evd_var rfl)) (fun i δ => ∃ e, δ = [.rep (.pck cs), .rep (seqD b (hs.map .int)), e]) ⟨.any, rfl⟩ ?_ ?_
      · rintro i d δ1 e ⟨e2, rfl⟩
        rw [List.getElem?_map] at e
        cases eh : hs[i]? with
        | none => rw [eh] at e; cases e
        | some h =>
          rw [eh] at e
          cases e
          obtain ⟨h0, h1⟩ := hi h (List.mem_of_getElem? eh)
          exact ⟨_, tg_name, std_drop (evd_call (eva_cons (evd_var rfl) (eva_cons (evd_var rfl) eva_nil)) ⟨cs, h, rfl, ok, h0, h1, rfl⟩) ⟨_, rfl⟩⟩
      · rintro δ1 ⟨e2, rfl⟩
        exact std_ret (evd_call (eva_cons (evd_var rfl) (eva_cons (evd_var rfl) eva_nil)) ⟨cs, b, hs, rfl, ok, by omega, fun h hh => inRow_of ok (hi h hh).1 (hi h hh).2 ne, rfl⟩) rfl
  · have er := er_start (N := N_drop_all) (H := H) (.cons rp (.cons ry .nil)) (Nat.le_add_left 2 1)
    unfold t_drop_all
    refine pt_seq ?_
    refine (evd_call (K := K) (P := fun ds r => ∃ cs, ds = [.pck cs] ∧ r = .non) (eva_cons (evd_var (i := 0) (d := .pck cs) rfl) eva_nil) ⟨cs, rfl, rfl⟩) none H none _ G H le er _ fun v G1 H1 x1 r1 => ?_
    have t1 : Tvd K (tNot (tB (tCall (sp_is_list K) [] E0 (tCons (tVar 1) (tCons (tC (.int 24)) tNil))))) (envOf N_drop_all ([Da.pck cs, .lst ds].map .rep)) (!decide ((ds.length : Int) ≤ 24)) :=
      tvd_not (tvd_B (evd_call (eva_cons (evd_var rfl) (eva_cons evd_int eva_nil)) ⟨true, ds, 24, rfl, rfl⟩))
    rw [decide_eq_false (by omega)] at t1
    dsimp only
    refine pt_seq (pt_if (t1 none H none _ G1 H1 x1.le (er.lift x1) _ ?_))
    intro G2 H2 x2
    exact iteT (raise_out T rfl (q _ _ (x1.trans x2)))
theorem evd_drop_all {cs : List (Str × Str)} {b : Bool} {hs : List Int} (h1 : Evd K ta δ (.pck cs)) (h2 : Evd K tb δ (seqD b (hs.map .int))) (ok : PackOk cs) (ne : cs ≠ []) (hl : hs.length ≤ 24) (hi : ∀ h ∈ hs, 0 ≤ h ∧ h < widthOf cs) :
    Evd K (tCall (sp_drop_all K) [] E (tCons ta (tCons tb tNil))) δ (partsD cs hs) := fun bp He bx σ G H le er Q q =>
  h1 bp He bx σ G H le er _ fun v G1 H1 x1 r1 => h2 bp He bx σ G1 H1 x1.le (er.lift x1) _ fun w G2 H2 x2 r2 =>
    .inl ⟨G2, _, _, x2.le, .cons (r1.mono x2.gg) (.cons r2 .nil), ⟨cs, b, hs, rfl, ok, ne, hl, hi, rfl⟩, fun v G3 H3 x3 r3 => q v G3 H3 ((x1.trans x2).trans x3) r3⟩
/-- try: drop_all(..) except BadHole as e: found = e.found -/
def tTryF (K : PySem.W.Frag) (x : Str) (i j : Nat) (ta tb : TE) : TS := fun Df σ H =>
  tDrop (tCallS (sp_drop_all K) (WE (wAs K (.ref (He.ga K x)) i (fun a cls d => tAsg (tXf a cls d (He.ga K x) "found" (tVar i)) (gName j)) (fun _ _ _ _ => False) Df)) (tCons ta (tCons tb tNil))) Df σ H
theorem std_try {i j : Nat} {cs : List (Str × Str)} (T : ErC K (BH K)) (h1 : Evd K ta δ (.pck cs)) (h2 : Evd K tb δ (.lst ds)) (hl : 24 < ds.length) (hij : i ≠ j) (hi : i < δ.length) (k : D.nx ((δ.set j (.rep (.lst ds))).set i .any)) :
    Std K (tTryF K "BadHole" i j ta tb) δ D := fun bp tp Ge He bx G H σ Df x er kn kr kb kc =>
  h1 bp He bx σ G H x.le er _ fun v G1 H1 x1 r1 => h2 bp He bx σ G1 H1 x1.le (er.lift x1) _ fun w G2 H2 x2 r2 => by
    refine .inr ⟨G2, v, w, cs, ds, rfl, x2.le, r1.mono x2.gg, r2, hl, fun G3 H3 x3 d hd => ⟨true, T.me, fun _ a ha => ?_, fun z => nomatch z⟩⟩
    have x4 : Ext none G3 H3 G3 (upd H3 d (.xd [(("found" : Str), w)])) := Ext.own x3.le hd
    have x04 := (x1.trans x2).trans (x3.trans x4)
    refine ⟨.ref a, List.getElem?_set_self (by rw [er.len]; exact hi), rfl, rfl, d, _, w, rfl, upd_same, rfl, ?_⟩
    show Df.nx _ _
    have e : ((σ.set i (some (V.ref a))).set j (some w)).set i none = (σ.set j (some w)).set i none := by
      rw [List.set_comm _ _ hij, List.set_set]
    show Df.nx (((σ.set i (some (V.ref a))).set j (some w)).set i none) _
    rw [e]
    exact kn bx G3 _ _ _ (x.trans x04.none_to) x04.gg (((er.lift x04).set (r2.mono x3.gg)).setNone) k
/-! ### in, deep -/
theorem op2_notInD (h1 : pln d = true) (h2 : plns ds = true) (l1 : dep d ≤ 64) (l2 : deps ds ≤ 63) : Op2 K (rNotInD K) d (.lst ds) (.bl (!ds.any fun z => PyData.eqv (toPy z) (toPy d))) := fun v1 v2 G H le r1 r2 Q q => by
  refine ⟨_, toPys ds, dp_of le r1 h1, dp_of le r2 (d := .lst ds) h2, shaped_of h1 l1, shaped_of (d := .lst ds) h2 (by show deps ds + 1 ≤ 64; omega), ?_⟩
  rw [toPys_map, List.any_map]
  exact q _ G H (Ext.refl le) (.bl _)
theorem op2_inD (h1 : pln d = true) (h2 : plns ds = true) (l1 : dep d ≤ 64) (l2 : deps ds ≤ 63) : Op2 K (rInD K) d (.lst ds) (.bl (ds.any fun z => PyData.eqv (toPy z) (toPy d))) := fun v1 v2 G H le r1 r2 Q q => by
  refine ⟨_, toPys ds, dp_of le r1 h1, dp_of le r2 (d := .lst ds) h2, shaped_of h1 l1, shaped_of (d := .lst ds) h2 (by show deps ds + 1 ≤ 64; omega), ?_⟩
  rw [toPys_map, List.any_map]
  exact q _ G H (Ext.refl le) (.bl _)
theorem eqv_card (a b : Str × Str) : PyData.eqv (toPy (cardD a)) (toPy (cardD b)) = decide (a = b) := by
  show (PyData.eqv (.str a.1) (.str b.1) && (PyData.eqv (.str a.2) (.str b.2) && true)) = _
  rw [eqv_str, eqv_str, Bool.and_true]
  by_cases h1 : a.1 = b.1
  · by_cases h2 : a.2 = b.2
    · rw [decide_eq_true h1, decide_eq_true h2, decide_eq_true (Prod.ext h1 h2)]; rfl
    · rw [decide_eq_false h2, decide_eq_false (p := a = b) (fun z => h2 (by rw [z])), Bool.and_false]
  · rw [decide_eq_false h1, decide_eq_false (p := a = b) (fun z => h1 (by rw [z])), Bool.false_and]
structure CardsOk (cs : List (Str × Str)) : Prop where
  len : cs.length ≤ 60
  ok : ∀ c ∈ cs, nameOk c.1 ∧ rowOk c.2
theorem PackOk.c {cs : List (Str × Str)} (h : PackOk cs) : CardsOk cs := ⟨h.len, h.ok⟩
theorem card_pln {c : Str × Str} (h : nameOk c.1 ∧ rowOk c.2) : pln (cardD c) = true := by
  show (PyData.strOk c.1 && (PyData.strOk c.2 && true)) = true
  rw [h.1.str, h.2.str]; rfl
theorem cards_pln {cs : List (Str × Str)} (h : CardsOk cs) : plns (cardsD cs) = true := plns_all fun d hd => by
  obtain ⟨c, hc, rfl⟩ := List.mem_map.mp hd
  exact card_pln (h.ok c hc)
theorem cards_deps (cs : List (Str × Str)) : deps (cardsD cs) ≤ 1 := deps_all fun d hd => by
  obtain ⟨c, hc, rfl⟩ := List.mem_map.mp hd
  exact Nat.le_refl 1
theorem cards_shws (cs : List (Str × Str)) : shws (cardsD cs) = true := shws_all fun d hd => by
  obtain ⟨c, hc, rfl⟩ := List.mem_map.mp hd
  rfl
theorem cards_cost {cs : List (Str × Str)} (h : CardsOk cs) : costs (cardsD cs) ≤ 60 * 1000 := by
  have a := costs_all (n := 400) (ds := cardsD cs) fun d hd => by
    obtain ⟨c, hc, rfl⟩ := List.mem_map.mp hd
    have h1 := (h.ok c hc).1.2.1
    have h2 := (h.ok c hc).2.2.1
    show (10 * c.1.length + 2) + 2 + ((10 * c.2.length + 2) + 2 + 0) + 3 ≤ 400
    omega
  rw [cardsD_len] at a
  have := h.len
  omega
end
end R
set_option maxHeartbeats 4123456
/-! PX: requests. -/
namespace R
open PySem L2
section
variable {K : PySem.W.Frag} {vs : List V} {H : Hp} {Q : VK} {E : XK}
structure AskC (K : PySem.W.Frag) : Prop where
  lv : CstT K (He.ga K "LEAVES") ["open", "closed"]
  sm : CstT K (He.ga K "SIMPLE") ["all", "none"]
  db : CstT K (He.ga K "DOUBLE") ["and", "or"]
def sp_parts_of (K : PySem.W.Frag) : Sp := PuSp K fun ds r => ∃ q : Req, ds = [q.da] ∧ r = .lst (q.parts.map Req.da)
def t_parts_of (K : PySem.W.Frag) : TS := (tRet (tIf (tOr (tTest (tOp (rIn K false) (tOp (rIxT K) (tVar 0) (tC (.int 0))) (tC (.ref (He.ga K "DOUBLE"))))) (tTest (tOp rEq (tOp (rIxT K) (tVar 0) (tC (.int 0))) (tC (.str "not"))))) (tCB (rListOf K) (tCons (tSl (rSlT K) (tVar 0) (tPart (tC (.int 1))) tNoPart) tNil)) (tLst tNil)))
def N_parts_of : List Str := ["request"]
theorem txt_eq (a b : Str) {c : Bool} (h : decide (a = b) = c) : Op2 K rEq (.str a) (.str b) (.bl c) := by rw [← h]; exact op2_eqS
theorem not_whole {d : Da} {ds : List Da} : ¬ (HT.sIx (d :: ds).length 0 (some ((1 : Nat) : Int)) = 0 ∧ HT.sIx (d :: ds).length (d :: ds).length none = (d :: ds).length) := fun z => by
  have h := z.1
  rw [HT.sIx_nat, List.length_cons] at h
  omega
theorem pure_parts_of (A : AskC K) (h : sp_parts_of K vs H Q E) : t_parts_of K { nx := fun _ H' => Q .non H', rt := Q } (L2.start N_parts_of vs) H := by
  refine pu_body h (fun ds r ⟨_, e, _⟩ => by rw [e]; exact Nat.le_refl 1) ?_
  rintro _ _ ⟨q, rfl, rfl⟩
  cases q with
  | opn x =>
    refine std_ret (evd_if (b := false) (Tvd.is (tvd_or (tvd_test (evd_op (evd_op (evd_var rfl) evd_int (op2_ixT (d := .str "open") (atI_nat (j := 0) rfl))) (evd_cst A.db) op2_inTs)) fun _ => tvd_test (evd_op (evd_op (evd_var rfl) evd_int (op2_ixT (d := .str "open") (atI_nat (j := 0) rfl))) evd_str op2_eqS)) (by decide +kernel)) (fun e => nomatch e) fun _ => (evo_lst eva_nil (by decide)).frz) rfl
  | cls x =>
    refine std_ret (evd_if (b := false) (Tvd.is (tvd_or (tvd_test (evd_op (evd_op (evd_var rfl) evd_int (op2_ixT (d := .str "closed") (atI_nat (j := 0) rfl))) (evd_cst A.db) op2_inTs)) fun _ => tvd_test (evd_op (evd_op (evd_var rfl) evd_int (op2_ixT (d := .str "closed") (atI_nat (j := 0) rfl))) evd_str op2_eqS)) (by decide +kernel)) (fun e => nomatch e) fun _ => (evo_lst eva_nil (by decide)).frz) rfl
  | all =>
    refine std_ret (evd_if (b := false) (Tvd.is (tvd_or (tvd_test (evd_op (evd_op (evd_var rfl) evd_int (op2_ixT (d := .str "all") (atI_nat (j := 0) rfl))) (evd_cst A.db) op2_inTs)) fun _ => tvd_test (evd_op (evd_op (evd_var rfl) evd_int (op2_ixT (d := .str "all") (atI_nat (j := 0) rfl))) evd_str op2_eqS)) (by decide +kernel)) (fun e => nomatch e) fun _ => (evo_lst eva_nil (by decide)).frz) rfl
  | non =>
    refine std_ret (evd_if (b := false) (Tvd.is (tvd_or (tvd_test (evd_op (evd_op (evd_var rfl) evd_int (op2_ixT (d := .str "none") (atI_nat (j := 0) rfl))) (evd_cst A.db) op2_inTs)) fun _ => tvd_test (evd_op (evd_op (evd_var rfl) evd_int (op2_ixT (d := .str "none") (atI_nat (j := 0) rfl))) evd_str op2_eqS)) (by decide +kernel)) (fun e => nomatch e) fun _ => (evo_lst eva_nil (by decide)).frz) rfl
  | not a =>
    refine std_ret (evd_if (b := true) (Tvd.is (tvd_or (tvd_test (evd_op (evd_op (evd_var rfl) evd_int (op2_ixT (d := .str "not") (atI_nat (j := 0) rfl))) (evd_cst A.db) op2_inTs)) fun _ => tvd_test (evd_op (evd_op (evd_var rfl) evd_int (op2_ixT (d := .str "not") (atI_nat (j := 0) rfl))) evd_str op2_eqS)) (by decide +kernel)) (fun _ => (evo_cb (eva_cons (evd_slT (ds := [.str "not", a.da]) (lo := some ((1 : Nat) : Int)) (hi := none) (evd_var rfl) (ovd_some evd_int) ovd_none not_whole) eva_nil) opno_listT).frz) fun e => nomatch e) rfl
  | and a b =>
    refine std_ret (evd_if (b := true) (Tvd.is (tvd_or (tvd_test (evd_op (evd_op (evd_var rfl) evd_int (op2_ixT (d := .str "and") (atI_nat (j := 0) rfl))) (evd_cst A.db) op2_inTs)) fun _ => tvd_test (evd_op (evd_op (evd_var rfl) evd_int (op2_ixT (d := .str "and") (atI_nat (j := 0) rfl))) evd_str op2_eqS)) (by decide +kernel)) (fun _ => (evo_cb (eva_cons (evd_slT (ds := [.str "and", a.da, b.da]) (lo := some ((1 : Nat) : Int)) (hi := none) (evd_var rfl) (ovd_some evd_int) ovd_none not_whole) eva_nil) opno_listT).frz) fun e => nomatch e) rfl
  | or a b =>
    refine std_ret (evd_if (b := true) (Tvd.is (tvd_or (tvd_test (evd_op (evd_op (evd_var rfl) evd_int (op2_ixT (d := .str "or") (atI_nat (j := 0) rfl))) (evd_cst A.db) op2_inTs)) fun _ => tvd_test (evd_op (evd_op (evd_var rfl) evd_int (op2_ixT (d := .str "or") (atI_nat (j := 0) rfl))) evd_str op2_eqS)) (by decide +kernel)) (fun _ => (evo_cb (eva_cons (evd_slT (ds := [.str "or", a.da, b.da]) (lo := some ((1 : Nat) : Int)) (hi := none) (evd_var rfl) (ovd_some evd_int) ovd_none not_whole) eva_nil) opno_listT).frz) fun e => nomatch e) rfl
def Req.word : Req → Str
  | .opn _ => "open" | .cls _ => "closed" | .all => "all" | .non => "none" | .not _ => "not" | .and _ _ => "and" | .or _ _ => "or"
theorem evd_word {δ : List En} {i : Nat} {q : Req} (h : δ[i]? = some (.rep q.da)) : Evd K (tOp (rIxT K) (tVar i) (tC (.int 0))) δ (.str q.word) := by
  cases q <;> exact evd_op (evd_var h) evd_int (op2_ixT (atI_nat (j := 0) rfl))
theorem req_dep_pos (q : Req) : 1 ≤ q.dep := by cases q <;> exact Nat.le_add_left 1 _
/-- the row suits the request -/
def Req.inR (w : Nat) (q : Req) : Prop := ∀ h ∈ q.holes, h < w
def sp_holds (K : PySem.W.Frag) (n : Nat) : Sp := PuSp K fun ds r => ∃ (q : Req) (z : Str), ds = [q.da, .str z] ∧ q.dep < n ∧ z.length ≤ 24 ∧ q.inR z.length ∧ r = .bl (q.sem z.cps.toList)
def t_holds (K : PySem.W.Frag) (n : Nat) : TS := (tSeq (tAsg (tOp (rIxT K) (tVar 0) (tC (.int 0))) (gName 2))
  (tSeq (tIfS (tTest (tOp (rIn K false) (tVar 2) (tC (.ref (He.ga K "LEAVES"))))) (tRet (tOp rEq (tCall (sp_is_open K) [] E0 (tCons (tVar 1) (tCons (tOp (rIxT K) (tVar 0) (tC (.int 1))) tNil))) (tOp rEq (tVar 2) (tC (.str "open"))))) tNext)
  (tSeq (tIfS (tTest (tOp (rIn K false) (tVar 2) (tC (.ref (He.ga K "SIMPLE"))))) (tRet (tOp rEq (tVar 2) (tC (.str "all")))) tNext)
  (tSeq (tAsg (tLc (iList K (tCall (sp_parts_of K) [] E0 (tCons (tVar 0) tNil))) (gName 4) tYes (tCall (sp_holds K n) [] E0 (tCons (tVar 4) (tCons (tVar 1) tNil))) [4]) (gName 3))
  (tSeq (tIfS (tTest (tOp rEq (tVar 2) (tC (.str "not")))) (tRet (tNotV (tOp (rIxL K) (tVar 3) (tC (.int 0))))) tNext)
  (tRet (tIf (tTest (tOp rEq (tVar 2) (tC (.str "and")))) (tCB (rAll K) (tCons (tVar 3) tNil)) (tCB (rAny K) (tCons (tVar 3) tNil)))))))))
def N_holds : List Str := ["request", "row", "word", "found", "part"]
theorem holds_parts {n : Nat} {q : Req} (h : q.dep < n + 1) : ∀ p ∈ q.parts, p.dep < n := fun p hp => by
  cases q with
  | not a => rw [List.mem_singleton.mp hp]; exact Nat.lt_of_succ_lt_succ h
  | and a b =>
    have h : max a.dep b.dep + 1 < n + 1 := h
    rcases List.mem_cons.mp hp with rfl | hp
    · omega
    · rw [List.mem_singleton.mp hp]; omega
  | or a b =>
    have h : max a.dep b.dep + 1 < n + 1 := h
    rcases List.mem_cons.mp hp with rfl | hp
    · omega
    · rw [List.mem_singleton.mp hp]; omega
  | opn x => cases hp
  | cls x => cases hp
  | all => cases hp
  | non => cases hp
theorem inR_parts {w : Nat} {q : Req} (h : q.inR w) : ∀ p ∈ q.parts, p.inR w := fun p hp x hx => by
  cases q with
  | not a => rw [List.mem_singleton.mp hp] at hx; exact h x hx
  | and a b =>
    rcases List.mem_cons.mp hp with rfl | hp
    · exact h x (List.mem_append_left _ hx)
    · rw [List.mem_singleton.mp hp] at hx; exact h x (List.mem_append_right _ hx)
  | or a b =>
    rcases List.mem_cons.mp hp with rfl | hp
    · exact h x (List.mem_append_left _ hx)
    · rw [List.mem_singleton.mp hp] at hx; exact h x (List.mem_append_right _ hx)
  | opn x => cases hp
  | cls x => cases hp
  | all => cases hp
  | non => cases hp
theorem parts_len (q : Req) : q.parts.length ≤ 2 := by cases q <;> exact Nat.le_of_ble_eq_true rfl
theorem bl_eq (a b : Bool) {c : Bool} (h : decide (a = b) = c) : Op2 K rEq (.bl a) (.bl b) (.bl c) := by rw [← h]; exact op2_eqB
theorem pure_holds (A : AskC K) {n : Nat} (h : sp_holds K (n + 1) vs H Q E) : t_holds K n { nx := fun _ H' => Q .non H', rt := Q } (L2.start N_holds vs) H := by
  refine pu_body h (fun ds r ⟨_, _, e, _⟩ => by rw [e]; exact Nat.le_add_left 2 3) ?_
  rintro _ _ ⟨q, z, rfl, hd, hz, hr, rfl⟩
  refine std_seq (std_asg (evd_word rfl) (std_seq ?_))
  refine std_if (b := decide (q.word ∈ (["open", "closed"] : List Str))) (tvd_test (evd_op (evd_var rfl) (evd_cst A.lv) op2_inTs)) (fun e => ?_) fun e => std_next (std_seq ?_)
  · have leaf : ∀ x : Nat, x < z.length → ∃ c, z.cps.toList[x]? = some c ∧ atI z.cps.toList (x : Int) = some c := fun x hx => by
      have hl : x < z.cps.toList.length := by rw [← str_len]; exact hx
      exact ⟨_, List.getElem?_eq_getElem hl, atI_nat (List.getElem?_eq_getElem hl)⟩
    cases q with
    | opn x =>
      obtain ⟨c, e1, e2⟩ := leaf x (hr x List.mem_cons_self)
      refine std_ret (evd_op (evd_call (eva_cons (evd_var rfl) (eva_cons (evd_op (evd_var rfl) evd_int (op2_ixT (d := .int (x : Int)) (atI_nat (j := 1) rfl))) eva_nil)) ⟨z, (x : Int), c, rfl, hz, e2, rfl⟩) (evd_op (d := .bl true) (evd_var (d := .str "open") rfl) evd_str (txt_eq _ _ (by decide +kernel))) op2_eqB) ?_
      show Da.bl (decide (decide (c = 118) = true)) = .bl (z.cps.toList[x]? == some 118)
      rw [e1]
      by_cases h : c = 118
      · rw [h]; rfl
      · rw [decide_eq_false h]
        have : (some c == some 118) = false := beq_eq_false_iff_ne.mpr fun q => h (Option.some.inj q)
        rw [this]; rfl
    | cls x =>
      obtain ⟨c, e1, e2⟩ := leaf x (hr x List.mem_cons_self)
      refine std_ret (evd_op (evd_call (eva_cons (evd_var rfl) (eva_cons (evd_op (evd_var rfl) evd_int (op2_ixT (d := .int (x : Int)) (atI_nat (j := 1) rfl))) eva_nil)) ⟨z, (x : Int), c, rfl, hz, e2, rfl⟩) (evd_op (d := .bl false) (evd_var (d := .str "closed") rfl) evd_str (txt_eq _ _ (by decide +kernel))) op2_eqB) ?_
      show Da.bl (decide (decide (c = 118) = false)) = .bl (!(z.cps.toList[x]? == some 118))
      rw [e1]
      by_cases h : c = 118
      · rw [h]; rfl
      · rw [decide_eq_false h]
        have : (some c == some 118) = false := beq_eq_false_iff_ne.mpr fun q => h (Option.some.inj q)
        rw [this]; rfl
    | all => exact absurd (of_decide_eq_true e) (by decide +kernel)
    | non => exact absurd (of_decide_eq_true e) (by decide +kernel)
    | not a => exact absurd (of_decide_eq_true e) (by show ¬ ("not" : Str) ∈ (["open", "closed"] : List Str); decide +kernel)
    | and a b => exact absurd (of_decide_eq_true e) (by show ¬ ("and" : Str) ∈ (["open", "closed"] : List Str); decide +kernel)
    | or a b => exact absurd (of_decide_eq_true e) (by show ¬ ("or" : Str) ∈ (["open", "closed"] : List Str); decide +kernel)
  refine std_if (b := decide (q.word ∈ (["all", "none"] : List Str))) (tvd_test (evd_op (evd_var rfl) (evd_cst A.sm) op2_inTs)) (fun e2 => ?_) fun e2 => std_next (std_seq ?_)
  · cases q with
    | all => exact std_ret (d := .bl true) (evd_op (evd_var (d := .str "all") rfl) evd_str (txt_eq _ _ (by decide +kernel))) rfl
    | non => exact std_ret (d := .bl false) (evd_op (evd_var (d := .str "none") rfl) evd_str (txt_eq _ _ (by decide +kernel))) rfl
    | opn x => exact absurd (of_decide_eq_true e2) (by show ¬ ("open" : Str) ∈ (["all", "none"] : List Str); decide +kernel)
    | cls x => exact absurd (of_decide_eq_true e2) (by show ¬ ("closed" : Str) ∈ (["all", "none"] : List Str); decide +kernel)
    | not a => exact absurd (of_decide_eq_true e2) (by show ¬ ("not" : Str) ∈ (["all", "none"] : List Str); decide +kernel)
    | and a b => exact absurd (of_decide_eq_true e2) (by show ¬ ("and" : Str) ∈ (["all", "none"] : List Str); decide +kernel)
    | or a b => exact absurd (of_decide_eq_true e2) (by show ¬ ("or" : Str) ∈ (["all", "none"] : List Str); decide +kernel)
  -- the parts
  have hall : Eve K (tLc (iList K (tCall (sp_parts_of K) [] E0 (tCons (tVar 0) tNil))) (gName 4) tYes (tCall (sp_holds K n) [] E0 (tCons (tVar 4) (tCons (tVar 1) tNil))) [4]) [.rep q.da, .rep (.str z), .rep (.str q.word), .any, .any] 0 (fun d => d = .lst ((q.parts.map fun p => p.sem z.cps.toList).map Da.bl)) := by
    refine ((eveo_lc (c := 0) (js := [4]) (P := fun i r => ∃ p, q.parts[i]? = some p ∧ r = .bl (p.sem z.cps.toList)) (src_list (ds := q.parts.map Req.da) (evd_call (eva_cons (evd_var rfl) eva_nil) ⟨q, rfl, rfl⟩)) (fun j h => h) (by rw [List.length_map]; have := parts_len q; omega) ?_).frz).imp (by rw [Nat.mul_zero]; exact Nat.le_refl 0) ?_
    · rintro i d ei
      rw [List.getElem?_map] at ei
      cases qi : q.parts[i]? with
      | none => rw [qi] at ei; cases ei
      | some p =>
        rw [qi] at ei
        cases ei
        have hp := List.mem_of_getElem? qi
        refine ⟨_, tg_name, (evd_call (eva_cons (evd_var rfl) (eva_cons (evd_var rfl) eva_nil)) ⟨p, z, rfl, holds_parts hd p hp, hz, inR_parts hr p hp, rfl⟩).eve.mono ?_⟩
        rintro _ rfl
        exact ⟨p, rfl, rfl⟩
    · rintro _ ⟨rs, rfl, hl, hP⟩
      congr 1
      rw [List.length_map] at hl
      refine List.ext_getElem? fun i => ?_
      rw [List.getElem?_map, List.getElem?_map]
      cases qi : rs[i]? with
      | none =>
        have := List.getElem?_eq_none_iff.mp qi
        rw [List.getElem?_eq_none (by omega)]; rfl
      | some r =>
        obtain ⟨p, e1, e2⟩ := hP i r qi
        rw [e1, e2]; rfl
  refine std_asgE hall ?_
  rintro _ rfl
  refine std_seq ?_
  cases q with
  | not a =>
    refine std_if (b := true) (tvd_test (evd_op (evd_var (d := .str "not") rfl) evd_str (txt_eq _ _ (by decide +kernel)))) (fun _ => ?_) (fun e => nomatch e)
    exact std_ret (evd_notV (evd_op (evd_var rfl) evd_int (op2_ixL (d := .bl (a.sem z.cps.toList)) (atI_nat (j := 0) rfl)))) rfl
  | and a b =>
    refine std_if (b := false) (tvd_test (evd_op (evd_var (d := .str "and") rfl) evd_str (txt_eq _ _ (by decide +kernel)))) (fun e => nomatch e) fun _ => std_next ?_
    refine std_ret (d := .bl (([a.sem z.cps.toList, b.sem z.cps.toList]).all id)) (evd_if (b := true) (tvd_test (evd_op (evd_var (d := .str "and") rfl) evd_str (txt_eq _ _ (by decide +kernel)))) (fun _ => evd_cb (eva_cons (evd_var (d := .lst ([a.sem z.cps.toList, b.sem z.cps.toList].map Da.bl)) rfl) eva_nil) opn_all) fun e => nomatch e) ?_
    show Da.bl (a.sem z.cps.toList && (b.sem z.cps.toList && true)) = .bl (a.sem z.cps.toList && b.sem z.cps.toList)
    rw [Bool.and_true]
  | or a b =>
    refine std_if (b := false) (tvd_test (evd_op (evd_var (d := .str "or") rfl) evd_str (txt_eq _ _ (by decide +kernel)))) (fun e => nomatch e) fun _ => std_next ?_
    refine std_ret (d := .bl (([a.sem z.cps.toList, b.sem z.cps.toList]).any id)) (evd_if (b := false) (tvd_test (evd_op (evd_var (d := .str "or") rfl) evd_str (txt_eq _ _ (by decide +kernel)))) (fun e => nomatch e) fun _ => evd_cb (eva_cons (evd_var (d := .lst ([a.sem z.cps.toList, b.sem z.cps.toList].map Da.bl)) rfl) eva_nil) opn_any) ?_
    show Da.bl (a.sem z.cps.toList || (b.sem z.cps.toList || false)) = .bl (a.sem z.cps.toList || b.sem z.cps.toList)
    rw [Bool.or_false]
  | opn x => exact absurd e (by show ¬ decide (("open" : Str) ∈ (["open", "closed"] : List Str)) = false; decide +kernel)
  | cls x => exact absurd e (by show ¬ decide (("closed" : Str) ∈ (["open", "closed"] : List Str)) = false; decide +kernel)
  | all => exact absurd e2 (by show ¬ decide (("all" : Str) ∈ (["all", "none"] : List Str)) = false; decide +kernel)
  | non => exact absurd e2 (by show ¬ decide (("none" : Str) ∈ (["all", "none"] : List Str)) = false; decide +kernel)
end
end R
set_option maxHeartbeats 4123456
/-! PY: requests' sizes. -/
namespace R
open PySem L2
section
variable {K : PySem.W.Frag} {vs : List V} {H : Hp} {Q : VK} {E : XK}
def sp_size_in (K : PySem.W.Frag) (n : Nat) : Sp := PuSp K fun ds r => ∃ (q : Req) (m : Nat), ds = [q.da, .int (m : Int)] ∧ q.dep < n ∧ q.dep ≤ m ∧ (∀ h ∈ q.holes, h < 24) ∧ r = .int (q.size : Int)
def t_size_in (K : PySem.W.Frag) (n : Nat) : TS := (tSeq (tIfS (tOr (tTest (tOp rEq (tVar 1) (tC (.int 0)))) (tOr (tNot (tB (tCB (rIsi K) (tCons (tVar 0) (tCons (tC (.ty "tuple")) tNil))))) (tOr (tTest (tOp rEq (tCB (rLenA K) (tCons (tVar 0) tNil)) (tC (.int 0)))) (tNot (tB (tCB (rIsi K) (tCons (tOp (rIxT K) (tVar 0) (tC (.int 0))) (tCons (tC (.ty "str")) tNil)))))))) (tRet (tC .non)) tNext)
  (tSeq (tIfS (tTest (tOp (rIn K false) (tOp (rIxT K) (tVar 0) (tC (.int 0))) (tC (.ref (He.ga K "LEAVES"))))) (tRet (tIf (tAnd (tTest (tOp rEq (tCB (rLenA K) (tCons (tVar 0) tNil)) (tC (.int 2)))) (tB (tCall (sp_is_integer K) [] E0 (tCons (tOp (rIxT K) (tVar 0) (tC (.int 1))) (tCons (tC (.int 0)) (tCons (tOp (rI0 fun i j => .int (i - j)) (tC (.int 24)) (tC (.int 1))) tNil)))))) (tC (.int 1)) (tC .non))) tNext)
  (tSeq (tIfS (tTest (tOp (rIn K false) (tOp (rIxT K) (tVar 0) (tC (.int 0))) (tC (.ref (He.ga K "SIMPLE"))))) (tRet (tIf (tTest (tOp rEq (tCB (rLenA K) (tCons (tVar 0) tNil)) (tC (.int 1)))) (tC (.int 1)) (tC .non))) tNext)
  (tSeq (tAsg (tIf (tTest (tOp (rIn K false) (tOp (rIxT K) (tVar 0) (tC (.int 0))) (tC (.ref (He.ga K "DOUBLE"))))) (tC (.int 2)) (tC (.int 1))) (gName 2))
  (tSeq (tIfS (tOr (tAnd (tTest (tOp rNe (tOp (rIxT K) (tVar 0) (tC (.int 0))) (tC (.str "not")))) (tTest (tOp (rIn K true) (tOp (rIxT K) (tVar 0) (tC (.int 0))) (tC (.ref (He.ga K "DOUBLE")))))) (tTest (tOp rNe (tCB (rLenA K) (tCons (tVar 0) tNil)) (tOp (rI0 fun i j => .int (i + j)) (tC (.int 1)) (tVar 2))))) (tRet (tC .non)) tNext)
  (tSeq (tAsg (tLc (iTup K (tSl (rSlT K) (tVar 0) (tPart (tC (.int 1))) tNoPart)) (gName 4) tYes (tCall (sp_size_in K n) [] E0 (tCons (tVar 4) (tCons (tOp (rI0 fun i j => .int (i - j)) (tVar 1) (tC (.int 1))) tNil))) [4]) (gName 3))
  (tRet (tIf (tTest (tOp (rIn K false) (tC .non) (tVar 3))) (tC .non) (tOp (rI0 fun i j => .int (i + j)) (tC (.int 1)) (tCB (rSum K) (tCons (tVar 3) tNil)))))))))))
def N_size_in : List Str := ["value", "room", "many", "sizes", "part"]
def Req.tl : Req → List Da
  | .opn h => [.int (h : Int)] | .cls h => [.int (h : Int)] | .all => [] | .non => [] | .not a => [a.da] | .and a b => [a.da, b.da] | .or a b => [a.da, b.da]
theorem Req.da_eq (q : Req) : q.da = .tup (.str q.word :: q.tl) := by cases q <;> rfl
theorem Req.tl_parts {q : Req} (h : q.parts ≠ []) : q.tl = q.parts.map Req.da := by
  cases q <;> first | exact absurd rfl h | rfl
def Req.leaf : Req → Bool
  | .opn _ => true | .cls _ => true | _ => false
def Req.simp : Req → Bool
  | .all => true | .non => true | _ => false
def Req.dbl : Req → Bool
  | .and _ _ => true | .or _ _ => true | _ => false
theorem word_leaf : ∀ q : Req, decide (q.word ∈ (["open", "closed"] : List Str)) = q.leaf
  | .opn _ => (by decide +kernel : decide (("open" : Str) ∈ (["open", "closed"] : List Str)) = true)
  | .cls _ => (by decide +kernel : decide (("closed" : Str) ∈ (["open", "closed"] : List Str)) = true)
  | .all  => (by decide +kernel : decide (("all" : Str) ∈ (["open", "closed"] : List Str)) = false)
  | .non  => (by decide +kernel : decide (("none" : Str) ∈ (["open", "closed"] : List Str)) = false)
  | .not _ => (by decide +kernel : decide (("not" : Str) ∈ (["open", "closed"] : List Str)) = false)
  | .and _ _ => (by decide +kernel : decide (("and" : Str) ∈ (["open", "closed"] : List Str)) = false)
  | .or _ _ => (by decide +kernel : decide (("or" : Str) ∈ (["open", "closed"] : List Str)) = false)
theorem word_simp : ∀ q : Req, decide (q.word ∈ (["all", "none"] : List Str)) = q.simp
  | .opn _ => (by decide +kernel : decide (("open" : Str) ∈ (["all", "none"] : List Str)) = false)
  | .cls _ => (by decide +kernel : decide (("closed" : Str) ∈ (["all", "none"] : List Str)) = false)
  | .all  => (by decide +kernel : decide (("all" : Str) ∈ (["all", "none"] : List Str)) = true)
  | .non  => (by decide +kernel : decide (("none" : Str) ∈ (["all", "none"] : List Str)) = true)
  | .not _ => (by decide +kernel : decide (("not" : Str) ∈ (["all", "none"] : List Str)) = false)
  | .and _ _ => (by decide +kernel : decide (("and" : Str) ∈ (["all", "none"] : List Str)) = false)
  | .or _ _ => (by decide +kernel : decide (("or" : Str) ∈ (["all", "none"] : List Str)) = false)
theorem word_dbl : ∀ q : Req, decide (q.word ∈ (["and", "or"] : List Str)) = q.dbl
  | .opn _ => (by decide +kernel : decide (("open" : Str) ∈ (["and", "or"] : List Str)) = false)
  | .cls _ => (by decide +kernel : decide (("closed" : Str) ∈ (["and", "or"] : List Str)) = false)
  | .all  => (by decide +kernel : decide (("all" : Str) ∈ (["and", "or"] : List Str)) = false)
  | .non  => (by decide +kernel : decide (("none" : Str) ∈ (["and", "or"] : List Str)) = false)
  | .not _ => (by decide +kernel : decide (("not" : Str) ∈ (["and", "or"] : List Str)) = false)
  | .and _ _ => (by decide +kernel : decide (("and" : Str) ∈ (["and", "or"] : List Str)) = true)
  | .or _ _ => (by decide +kernel : decide (("or" : Str) ∈ (["and", "or"] : List Str)) = true)
theorem op2_leaf (A : AskC K) {δ : List En} {tw : TE} (q : Req) (h : Evd K tw δ (.str q.word)) : Tvd K (tTest (tOp (rIn K false) tw (tC (.ref (He.ga K "LEAVES"))))) δ q.leaf :=
  (tvd_test (evd_op h (evd_cst A.lv) op2_inTs)).is (word_leaf q)
theorem op2_simp (A : AskC K) {δ : List En} {tw : TE} (q : Req) (h : Evd K tw δ (.str q.word)) : Tvd K (tTest (tOp (rIn K false) tw (tC (.ref (He.ga K "SIMPLE"))))) δ q.simp :=
  (tvd_test (evd_op h (evd_cst A.sm) op2_inTs)).is (word_simp q)
theorem op2_dbl (A : AskC K) {δ : List En} {tw : TE} (q : Req) (h : Evd K tw δ (.str q.word)) : Tvd K (tTest (tOp (rIn K false) tw (tC (.ref (He.ga K "DOUBLE"))))) δ q.dbl :=
  (tvd_test (evd_op h (evd_cst A.db) op2_inTs)).is (word_dbl q)
theorem op2_ndbl (A : AskC K) {δ : List En} {tw : TE} (q : Req) (h : Evd K tw δ (.str q.word)) : Tvd K (tTest (tOp (rIn K true) tw (tC (.ref (He.ga K "DOUBLE"))))) δ (!q.dbl) :=
  (tvd_test (evd_op h (evd_cst A.db) op2_inTs)).is (by show (!decide (q.word ∈ (["and", "or"] : List Str))) = _; rw [word_dbl])
theorem evd_len_req {δ : List En} {i : Nat} {q : Req} (h : δ[i]? = some (.rep q.da)) : Evd K (tCB (rLenA K) (tCons (tVar i) tNil)) δ (.int ((q.tl.length + 1 : Nat) : Int)) := by
  rw [Req.da_eq] at h
  exact evd_cb (eva_cons (evd_var h) eva_nil) opn_lenT
theorem dep_parts {q p : Req} (h : p ∈ q.parts) : p.dep < q.dep := holds_parts (Nat.lt_succ_self _) p h
theorem holes_parts {q p : Req} (h : p ∈ q.parts) {x : Nat} (hx : x ∈ p.holes) : x ∈ q.holes := by
  cases q with
  | not a => rw [List.mem_singleton.mp h] at hx; exact hx
  | and a b =>
    rcases List.mem_cons.mp h with rfl | h
    · exact List.mem_append_left _ hx
    · rw [List.mem_singleton.mp h] at hx; exact List.mem_append_right _ hx
  | or a b =>
    rcases List.mem_cons.mp h with rfl | h
    · exact List.mem_append_left _ hx
    · rw [List.mem_singleton.mp h] at hx; exact List.mem_append_right _ hx
  | opn x => cases h
  | cls x => cases h
  | all => cases h
  | non => cases h
theorem size_sum {q : Req} (h : q.parts ≠ []) : (1 : Int) + ((q.parts.map fun p => (p.size : Int)).sum) = (q.size : Int) := by
  cases q with
  | not a => show (1 : Int) + ((a.size : Int) + 0) = ((a.size + 1 : Nat) : Int); omega
  | and a b => show (1 : Int) + ((a.size : Int) + ((b.size : Int) + 0)) = ((a.size + b.size + 1 : Nat) : Int); omega
  | or a b => show (1 : Int) + ((a.size : Int) + ((b.size : Int) + 0)) = ((a.size + b.size + 1 : Nat) : Int); omega
  | opn x => exact absurd rfl h
  | cls x => exact absurd rfl h
  | all => exact absurd rfl h
  | non => exact absurd rfl h
theorem cut_one {d : Da} {ds : List Da} : cutD (d :: ds) (some ((1 : Nat) : Int)) none = ds := by
  unfold cutD
  rw [HT.sIx_nat, List.length_cons, Nat.min_eq_left (by omega)]
  exact List.take_of_length_le (by show ds.length ≤ ds.length + 1 - 1; omega)
theorem op2_notN2 {d : Da} : Op2 K rNotN d .non (.bl (!nonD d)) := fun v1 v2 G H le r1 r2 Q q => by
  refine ⟨r2.nonI, ?_⟩
  rw [r1.isNon]
  exact q _ G H (Ext.refl le) (.bl _)
theorem inD_non_ints : ∀ ns : List Int, inD .non (ns.map Da.int) = false
  | [] => rfl
  | n :: ns => (inD_non_ints ns : inD .non (ns.map Da.int) = false)
theorem pure_size_in (A : AskC K) {n : Nat} (h : sp_size_in K (n + 1) vs H Q E) : t_size_in K n { nx := fun _ H' => Q .non H', rt := Q } (L2.start N_size_in vs) H := by
  refine pu_body h (fun ds r ⟨_, _, e, _⟩ => by rw [e]; exact Nat.le_add_left 2 3) ?_
  rintro _ _ ⟨q, m, rfl, hd, hm, hh, rfl⟩
  have hp := req_dep_pos q
  refine std_seq (std_if (b := false) (Tvd.is (tvd_or (tvd_test (evd_op (evd_var rfl) evd_int op2_eqI)) fun _ => tvd_or (tvd_not (tvd_B (b := true) ?_)) fun _ => tvd_or (tvd_test (evd_op (evd_len_req rfl) evd_int op2_eqI)) fun _ => tvd_not (tvd_B (b := true) (evd_isiN true "str" (evd_word rfl)))) ?_) (fun e => nomatch e) fun _ => std_next ?_)
  · rw [Req.da_eq]; exact evd_isiN true "tuple" (evd_var rfl)
  · rw [decide_eq_false (by omega), decide_eq_false (by omega)]; rfl
  refine std_seq (std_if (op2_leaf A q (evd_word rfl)) (fun e => ?_) fun e => std_next ?_)
  · have leaf : ∀ x : Nat, x < 24 → ((decide ((0 : Int) ≤ x) && decide ((x : Int) ≤ 24 - 1))) = true := fun x hx => by
      rw [decide_eq_true (by omega), decide_eq_true (by omega)]; rfl
    cases q with
    | opn x => exact std_ret (d := .int 1) (evd_if (b := true) (Tvd.is (tvd_and (tvd_test (evd_op (evd_len_req (q := .opn x) rfl) evd_int op2_eqI)) fun _ => tvd_B (evd_call (eva_cons (evd_op (evd_var rfl) evd_int (op2_ixT (d := .int (x : Int)) (atI_nat (j := 1) rfl))) (eva_cons evd_int (eva_cons (evd_op evd_int evd_int op2_I0) eva_nil))) ⟨(x : Int), 0, 24 - 1, rfl, congrArg Da.bl (leaf x (hh x List.mem_cons_self)).symm⟩)) rfl) (fun _ => evd_int) fun e => nomatch e) rfl
    | cls x => exact std_ret (d := .int 1) (evd_if (b := true) (Tvd.is (tvd_and (tvd_test (evd_op (evd_len_req (q := .cls x) rfl) evd_int op2_eqI)) fun _ => tvd_B (evd_call (eva_cons (evd_op (evd_var rfl) evd_int (op2_ixT (d := .int (x : Int)) (atI_nat (j := 1) rfl))) (eva_cons evd_int (eva_cons (evd_op evd_int evd_int op2_I0) eva_nil))) ⟨(x : Int), 0, 24 - 1, rfl, congrArg Da.bl (leaf x (hh x List.mem_cons_self)).symm⟩)) rfl) (fun _ => evd_int) fun e => nomatch e) rfl
    | all => cases e
    | non => cases e
    | not a => cases e
    | and a b => cases e
    | or a b => cases e
  refine std_seq (std_if (op2_simp A q (evd_word rfl)) (fun e2 => ?_) fun e2 => std_next ?_)
  · cases q with
    | all => exact std_ret (d := .int 1) (evd_if (b := true) (Tvd.is (tvd_test (evd_op (evd_len_req (q := .all) rfl) evd_int op2_eqI)) rfl) (fun _ => evd_int) fun e => nomatch e) rfl
    | non => exact std_ret (d := .int 1) (evd_if (b := true) (Tvd.is (tvd_test (evd_op (evd_len_req (q := .non) rfl) evd_int op2_eqI)) rfl) (fun _ => evd_int) fun e => nomatch e) rfl
    | opn x => cases e2
    | cls x => cases e2
    | not a => cases e2
    | and a b => cases e2
    | or a b => cases e2
  have hne : q.parts ≠ [] := by cases q <;> first | (cases e; done) | (cases e2; done) | (intro z; cases z; done)
  have hlen : q.tl.length = if q.dbl then 2 else 1 := by cases q <;> first | (cases e; done) | (cases e2; done) | rfl
  refine std_seq (std_asg (d := .int (if q.dbl then 2 else 1)) (evd_if (op2_dbl A q (evd_word rfl)) (fun z => by rw [z]; exact evd_int) fun z => by rw [z]; exact evd_int) ?_)
  refine std_seq (std_if (b := false) (Tvd.is (tvd_or (tvd_and (tvd_test (evd_op (evd_word rfl) evd_str op2_neS)) fun _ => op2_ndbl A q (evd_word rfl)) fun _ => tvd_test (evd_op (evd_len_req rfl) (evd_op evd_int (evd_var rfl) op2_I0) op2_neI)) ?_) (fun e => nomatch e) fun _ => std_next ?_)
  · rw [hlen]
    cases q with
    | not a => rfl
    | and a b => exact Bool.or_eq_false_iff.mpr ⟨Bool.and_eq_false_iff.mpr (.inr rfl), rfl⟩
    | or a b => exact Bool.or_eq_false_iff.mpr ⟨Bool.and_eq_false_iff.mpr (.inr rfl), rfl⟩
    | opn x => cases e
    | cls x => cases e
    | all => cases e2
    | non => cases e2
  refine std_seq (std_asgE (c := 0) (P := fun d => d = .lst ((q.parts.map fun p => (p.size : Int)).map Da.int)) ?_ ?_)
  · refine ((eveo_lc (c := 0) (js := [4]) (P := fun i r => ∃ p, q.parts[i]? = some p ∧ r = .int (p.size : Int)) (src_tup (ds := q.parts.map Req.da) ?_) (fun j h => h) (by rw [List.length_map]; have := parts_len q; omega) ?_).frz).imp (by rw [Nat.mul_zero]; exact Nat.le_refl 0) ?_
    · rw [← Req.tl_parts hne]
      have := evd_slT (K := K) (ds := .str q.word :: q.tl) (lo := some ((1 : Nat) : Int)) (hi := none) (δ := [.rep q.da, .rep (.int (m : Int)), .rep (.int (if q.dbl then 2 else 1)), .any, .any]) (te := tVar 0) (by rw [Req.da_eq]; exact evd_var rfl) (ovd_some evd_int) ovd_none not_whole
      have e3 : cutD (.str q.word :: q.tl) (some ((1 : Nat) : Int)) none = q.tl := cut_one
      rw [e3] at this
      exact this
    · rintro i d ei
      rw [List.getElem?_map] at ei
      cases qi : q.parts[i]? with
      | none => rw [qi] at ei; cases ei
      | some p =>
        rw [qi] at ei
        cases ei
        have hp := List.mem_of_getElem? qi
        have hdp := dep_parts hp
        refine ⟨_, tg_name, (evd_call (eva_cons (evd_var rfl) (eva_cons (evd_op (evd_var rfl) evd_int op2_I0) eva_nil)) ⟨p, m - 1, by rw [show ((m - 1 : Nat) : Int) = (m : Int) - 1 by omega], holds_parts hd p hp, by omega, fun x hx => hh x (holes_parts hp hx), rfl⟩).eve.mono ?_⟩
        rintro _ rfl
        exact ⟨p, rfl, rfl⟩
    · rintro _ ⟨rs, rfl, hl, hP⟩
      congr 1
      rw [List.length_map] at hl
      refine List.ext_getElem? fun i => ?_
      rw [List.getElem?_map, List.getElem?_map]
      cases qi : rs[i]? with
      | none =>
        have := List.getElem?_eq_none_iff.mp qi
        rw [List.getElem?_eq_none (by omega)]; rfl
      | some r =>
        obtain ⟨p, e1, e2⟩ := hP i r qi
        rw [e1, e2]; rfl
  rintro _ rfl
  refine std_ret (d := .int (1 + (q.parts.map fun p => (p.size : Int)).sum)) (evd_if (b := false) (Tvd.is (tvd_test (evd_op evd_non (evd_var rfl) (op2_inL (neg := false) rfl (flat_ints _)))) (inD_non_ints _)) (fun e => nomatch e) fun _ => evd_op evd_int (evd_cb (eva_cons (evd_var rfl) eva_nil) opn_sum) op2_I0) (congrArg Da.int (size_sum hne))
def sp_is_request (K : PySem.W.Frag) : Sp := PuSp K fun ds r => ∃ q : Req, ds = [q.da] ∧ q.dep ≤ 12 ∧ (∀ h ∈ q.holes, h < 24) ∧ q.size ≤ 60 ∧ r = .bl true
def t_is_request (K : PySem.W.Frag) : TS := (tSeq (tAsg (tCall (sp_size_in K 14) [] E0 (tCons (tVar 0) (tCons (tC (.int 12)) tNil))) (gName 1))
  (tRet (tAndV (tOp rNotN (tVar 1) (tC .non)) (tOp (rI0 fun i j => .bl (decide (i ≤ j))) (tVar 1) (tC (.int 60))))))
def N_is_request : List Str := ["value", "size"]
theorem pure_is_request (h : sp_is_request K vs H Q E) : t_is_request K { nx := fun _ H' => Q .non H', rt := Q } (L2.start N_is_request vs) H := by
  refine pu_body h (fun ds r ⟨_, e, _⟩ => by rw [e]; exact Nat.le_add_left 1 1) ?_
  rintro _ _ ⟨q, rfl, hd, hh, hs, rfl⟩
  refine std_seq (std_asg (evd_call (eva_cons (evd_var rfl) (eva_cons evd_int eva_nil)) ⟨q, 12, rfl, by omega, hd, hh, rfl⟩) ?_)
  exact std_ret (d := .bl (true && decide ((q.size : Int) ≤ 60))) (evd_and (evd_op (evd_var (d := .int (q.size : Int)) rfl) evd_non op2_notN2) fun _ => evd_op (evd_var rfl) evd_int op2_B0) (by rw [decide_eq_true (by omega)]; rfl)
def sp_need_request (K : PySem.W.Frag) : Sp := PuSp K fun ds r => ∃ q : Req, ds = [q.da] ∧ q.dep ≤ 12 ∧ (∀ h ∈ q.holes, h < 24) ∧ q.size ≤ 60 ∧ r = .non
def t_need_request (K : PySem.W.Frag) : TS := (tIfS (tNot (tB (tCall (sp_is_request K) [] E0 (tCons (tVar 0) tNil)))) tNever tNext)
def N_need_request : List Str := ["request"]
theorem pure_need_request (h : sp_need_request K vs H Q E) : t_need_request K { nx := fun _ H' => Q .non H', rt := Q } (L2.start N_need_request vs) H := by
  refine pu_body h (fun ds r ⟨_, e, _⟩ => by rw [e]; exact Nat.le_refl 1) ?_
  rintro _ _ ⟨q, rfl, hd, hh, hs, rfl⟩
  exact std_if (b := !true) (tvd_not (tvd_B (evd_call (eva_cons (evd_var rfl) eva_nil) ⟨q, rfl, hd, hh, hs, rfl⟩))) (fun e => nomatch e) fun _ => std_next rfl
def sp_holes_in (K : PySem.W.Frag) (n : Nat) : Sp := PuSp K fun ds r => ∃ q : Req, ds = [q.da] ∧ q.dep < n ∧ q.size ≤ 20000 ∧ r = .lst (q.holes.map fun h : Nat => Da.int (h : Int))
def t_holes_in (K : PySem.W.Frag) (n : Nat) : TS := (tSeq (tIfS (tTest (tOp (rIn K false) (tOp (rIxT K) (tVar 0) (tC (.int 0))) (tC (.ref (He.ga K "LEAVES"))))) (tRet (tLst (tCons (tOp (rIxT K) (tVar 0) (tC (.int 1))) tNil))) tNext)
  (tRet (tLc2 (iList K (tCall (sp_parts_of K) [] E0 (tCons (tVar 0) tNil))) (gName 1) tYes (iList K (tCall (sp_holes_in K n) [] E0 (tCons (tVar 1) tNil))) (gName 2) tYes (tVar 2) [1, 2] [2])))
def N_holes_in : List Str := ["request", "part", "hole"]
mutual
def intsD : Da → List Da
  | .int i => [.int i]
  | .tup ds => intsDs ds
  | _ => []
def intsDs : List Da → List Da
  | [] => []
  | d :: ds => intsD d ++ intsDs ds
end
theorem ints_req : ∀ q : Req, intsD q.da = q.holes.map fun h : Nat => Da.int (h : Int)
  | .opn h => rfl
  | .cls h => rfl
  | .all => rfl
  | .non => rfl
  | .not a => by show [] ++ (intsD a.da ++ []) = a.holes.map _; rw [List.append_nil, List.nil_append, ints_req a]
  | .and a b => by show [] ++ (intsD a.da ++ (intsD b.da ++ [])) = (a.holes ++ b.holes).map _; rw [List.append_nil, List.nil_append, ints_req a, ints_req b, List.map_append]
  | .or a b => by show [] ++ (intsD a.da ++ (intsD b.da ++ [])) = (a.holes ++ b.holes).map _; rw [List.append_nil, List.nil_append, ints_req a, ints_req b, List.map_append]
theorem holes_size : ∀ q : Req, q.holes.length ≤ q.size
  | .opn h => Nat.le_refl 1
  | .cls h => Nat.le_refl 1
  | .all => Nat.zero_le _
  | .non => Nat.zero_le _
  | .not a => Nat.le_succ_of_le (holes_size a)
  | .and a b => by show (a.holes ++ b.holes).length ≤ a.size + b.size + 1; have := holes_size a; have := holes_size b; rw [List.length_append]; omega
  | .or a b => by show (a.holes ++ b.holes).length ≤ a.size + b.size + 1; have := holes_size a; have := holes_size b; rw [List.length_append]; omega
theorem size_part {q p : Req} (h : p ∈ q.parts) : p.size < q.size := by
  cases q with
  | not a => rw [List.mem_singleton.mp h]; exact Nat.lt_succ_self _
  | and a b =>
    rcases List.mem_cons.mp h with rfl | h
    · show p.size < p.size + b.size + 1; omega
    · rw [List.mem_singleton.mp h]; show b.size < a.size + b.size + 1; omega
  | or a b =>
    rcases List.mem_cons.mp h with rfl | h
    · show p.size < p.size + b.size + 1; omega
    · rw [List.mem_singleton.mp h]; show b.size < a.size + b.size + 1; omega
  | opn x => cases h
  | cls x => cases h
  | all => cases h
  | non => cases h
theorem flat_holes {q : Req} (h : q.leaf = false) : (q.parts.map Req.da).flatMap (fun d => (intsD d).map fun e => e) = q.holes.map fun h : Nat => Da.int (h : Int) := by
  cases q with
  | opn x => cases h
  | cls x => cases h
  | all => rfl
  | non => rfl
  | not a => show List.map (fun e => e) (intsD a.da) ++ [] = a.holes.map _; rw [List.append_nil, List.map_id', ints_req]
  | and a b => show List.map (fun e => e) (intsD a.da) ++ (List.map (fun e => e) (intsD b.da) ++ []) = (a.holes ++ b.holes).map _; rw [List.append_nil, List.map_id', List.map_id', ints_req, ints_req, List.map_append]
  | or a b => show List.map (fun e => e) (intsD a.da) ++ (List.map (fun e => e) (intsD b.da) ++ []) = (a.holes ++ b.holes).map _; rw [List.append_nil, List.map_id', List.map_id', ints_req, ints_req, List.map_append]
theorem pure_holes_in (A : AskC K) {n : Nat} (h : sp_holes_in K (n + 1) vs H Q E) : t_holes_in K n { nx := fun _ H' => Q .non H', rt := Q } (L2.start N_holes_in vs) H := by
  refine pu_body h (fun ds r ⟨_, e, _⟩ => by rw [e]; exact Nat.le_add_left 1 2) ?_
  rintro _ _ ⟨q, rfl, hd, hs, rfl⟩
  refine std_seq (std_if (op2_leaf A q (evd_word rfl)) (fun e => ?_) fun e => std_next ?_)
  · cases q with
    | opn x => exact std_ret (evo_lst (eva_cons (evd_op (evd_var rfl) evd_int (op2_ixT (d := .int (x : Int)) (atI_nat (j := 1) rfl))) eva_nil) (Nat.le_add_left 1 99999)).frz rfl
    | cls x => exact std_ret (evo_lst (eva_cons (evd_op (evd_var rfl) evd_int (op2_ixT (d := .int (x : Int)) (atI_nat (j := 1) rfl))) eva_nil) (Nat.le_add_left 1 99999)).frz rfl
    | all => cases e
    | non => cases e
    | not a => cases e
    | and a b => cases e
    | or a b => cases e
  refine std_ret (evo_lc2 (F := intsD) (f := fun _ e => e) (js := [1]) (js1 := [2]) (src_list (ds := q.parts.map Req.da) (evd_call (eva_cons (evd_var rfl) eva_nil) ⟨q, rfl, rfl⟩)) (fun j h => by rw [List.mem_singleton.mp h]; exact List.mem_cons_self) (fun j h => h) ?_ ?_).frz (congrArg Da.lst (flat_holes e))
  · rw [flat_holes e, List.length_map]; have := holes_size q; omega
  · rintro i d ei
    rw [List.getElem?_map] at ei
    cases qi : q.parts[i]? with
    | none => rw [qi] at ei; cases ei
    | some p =>
      rw [qi] at ei
      cases ei
      have hp := List.mem_of_getElem? qi
      have hsp := size_part hp
      refine ⟨_, ?_, tg_name, src_list (evd_call (eva_cons (evd_var rfl) eva_nil) ⟨p, rfl, holds_parts hd p hp, by omega, by rw [ints_req]⟩), fun j e _ => ⟨_, tg_name, evd_var rfl⟩⟩
      intro en hen
      rcases List.mem_cons.mp hen with rfl | hen
      · exact .inr ⟨_, rfl⟩
      rcases List.mem_cons.mp hen with rfl | hen
      · exact .inr ⟨_, rfl⟩
      exact .inl (List.mem_singleton.mp hen)
def sp_need_holes (K : PySem.W.Frag) : Sp := PuSp K fun ds r => ∃ (hs : List Nat) (w : Nat), ds = [.lst (hs.map fun h : Nat => Da.int (h : Int)), .int (w : Int)] ∧ hs.length ≤ 200 ∧ (∀ h ∈ hs, h < w) ∧ r = .non
def t_need_holes (K : PySem.W.Frag) : TS := (tFor (iList K (tVar 0)) (gName 2) (tIfS (tTest (tOp (rI0 fun i j => .bl (decide (j ≤ i))) (tVar 2) (tVar 1))) tNever tNext))
def N_need_holes : List Str := ["holes", "width", "hole"]
theorem pure_need_holes (h : sp_need_holes K vs H Q E) : t_need_holes K { nx := fun _ H' => Q .non H', rt := Q } (L2.start N_need_holes vs) H := by
  refine pu_body h (fun ds r ⟨_, _, e, _⟩ => by rw [e]; exact Nat.le_add_left 2 1) ?_
  rintro _ _ ⟨hs, w, rfl, hl, hh, rfl⟩
  refine std_for (js := [2]) (src_list (evd_var rfl)) (fun i δ => ∃ e, δ = [.rep (.lst (hs.map fun h : Nat => Da.int (h : Int))), .rep (.int (w : Int)), e]) ⟨.any, rfl⟩ ?_ (fun δ _ => rfl)
  rintro i d δ1 e ⟨e2, rfl⟩
  rw [List.getElem?_map] at e
  cases q : hs[i]? with
  | none => rw [q] at e; cases e
  | some n =>
    rw [q] at e
    cases e
    have := hh n (List.mem_of_getElem? q)
    exact ⟨_, tg_name, std_if (b := false) (Tvd.is (tvd_test (evd_op (evd_var rfl) (evd_var rfl) op2_B0)) (decide_eq_false (by omega))) (fun e => nomatch e) fun _ => std_next ⟨_, rfl⟩⟩
end
end R
set_option maxHeartbeats 4123456
/-! PZ: rows of numbers, fits. -/
namespace R
open PySem L2
section
variable {K : PySem.W.Frag} {vs : List V} {H : Hp} {Q : VK} {E : XK}
def sp_need_row (K : PySem.W.Frag) : Sp := PuSp K fun ds r => ∃ z, ds = [.str z] ∧ rowOk z ∧ r = .non
def t_need_row (K : PySem.W.Frag) : TS := (tIfS (tNot (tB (tCall (sp_is_row K) [] E0 (tCons (tVar 0) tNil)))) tNever tNext)
def N_need_row : List Str := ["row"]
theorem pure_need_row (h : sp_need_row K vs H Q E) : t_need_row K { nx := fun _ H' => Q .non H', rt := Q } (L2.start N_need_row vs) H := by
  refine pu_body h (fun ds r ⟨_, e, _⟩ => by rw [e]; exact Nat.le_refl 1) ?_
  rintro _ _ ⟨z, rfl, hz, rfl⟩
  exact std_if (b := !true) (tvd_not (tvd_B (evd_call (eva_cons (evd_var rfl) eva_nil) ⟨z, rfl, hz, rfl⟩))) (fun e => nomatch e) fun _ => std_next rfl
def sp_need_width (K : PySem.W.Frag) : Sp := PuSp K fun ds r => ∃ i m : Int, ds = [.int i, .int m] ∧ 1 ≤ i ∧ i ≤ m ∧ r = .non
def t_need_width (K : PySem.W.Frag) : TS := (tIfS (tNot (tB (tCall (sp_is_integer K) [] E0 (tCons (tVar 0) (tCons (tC (.int 1)) (tCons (tVar 1) tNil)))))) tNever tNext)
def N_need_width : List Str := ["width", "most"]
theorem pure_need_width (h : sp_need_width K vs H Q E) : t_need_width K { nx := fun _ H' => Q .non H', rt := Q } (L2.start N_need_width vs) H := by
  refine pu_body h (fun ds r ⟨_, _, e, _⟩ => by rw [e]; exact Nat.le_refl 2) ?_
  rintro _ _ ⟨i, m, rfl, h1, h2, rfl⟩
  exact std_if (b := !true) (tvd_not (tvd_B (evd_call (eva_cons (evd_var rfl) (eva_cons evd_int (eva_cons (evd_var rfl) eva_nil))) ⟨i, 1, m, rfl, by rw [decide_eq_true h1, decide_eq_true h2]; rfl⟩))) (fun e => nomatch e) fun _ => std_next rfl
/-! rows of signs -/
def sgb (b : Bool) : Nat := if b then 118 else 111
def rowS (bs : List Bool) : Str := Str.join ⟨#[]⟩ ((bs.map sgb).map fun c => (⟨#[c]⟩ : Str))
theorem rowS_cp (bs : List Bool) : (rowS bs).cps.toList = bs.map sgb := cp_join _
theorem rowS_len (bs : List Bool) : (rowS bs).length = bs.length := by rw [str_len, rowS_cp, List.length_map]
theorem rowS_ok {bs : List Bool} (h1 : 1 ≤ bs.length) (h2 : bs.length ≤ 24) : rowOk (rowS bs) := by
  refine ⟨by rw [rowS_len]; exact h1, by rw [rowS_len]; exact h2, fun c hc => ?_⟩
  rw [rowS_cp] at hc
  obtain ⟨b, _, rfl⟩ := List.mem_map.mp hc
  cases b
  · exact .inl rfl
  · exact .inr rfl
theorem sum_ones1 : ∀ bs : List Nat, ((bs.map fun c => (⟨#[c]⟩ : Str)).map (·.length)).sum = bs.length
  | [] => rfl
  | b :: bs => by
    show 1 + ((bs.map fun c => (⟨#[c]⟩ : Str)).map (·.length)).sum = bs.length + 1
    rw [sum_ones1 bs]; omega
theorem join_fits {bs : List Nat} (h : bs.length ≤ 1000) : ((bs.map fun c => (⟨#[c]⟩ : Str)).map (·.length)).sum + (bs.map fun c => (⟨#[c]⟩ : Str)).length * ("" : Str).length ≤ 16777216 := by
  have e : ("" : Str).length = 0 := by decide +kernel
  rw [sum_ones1, e, Nat.mul_zero]; omega
def sp_row_of (K : PySem.W.Frag) : Sp := PuSp K fun ds r => ∃ bs : List Bool, ds = [.lst (bs.map .bl)] ∧ bs.length ≤ 24 ∧ r = .str (rowS bs)
def t_row_of (K : PySem.W.Frag) : TS := (tRet (tBM K "str" (rJoin K) (tC (.str "")) (tCons (tLc (iList K (tVar 0)) (gName 1) tYes (tIf (tB (tVar 1)) (tC (.str "v")) (tC (.str "o"))) [1]) tNil)))
def N_row_of : List Str := ["signs", "sign"]
theorem pure_row_of (h : sp_row_of K vs H Q E) : t_row_of K { nx := fun _ H' => Q .non H', rt := Q } (L2.start N_row_of vs) H := by
  refine pu_body h (fun ds r ⟨_, e, _⟩ => by rw [e]; exact Nat.le_add_left 1 1) ?_
  rintro _ _ ⟨bs, rfl, hl, rfl⟩
  refine std_ret (evd_join (ys := (bs.map sgb).map fun c => (⟨#[c]⟩ : Str)) evd_str (Evd.is (EvO.frz (evo_lcN (js := [1]) (xs := bs) (φ := Da.bl) (f := fun b => Da.str ⟨#[sgb b]⟩) (src_list (evd_var rfl)) (fun j h => h) (by omega) fun i b _ => ⟨_, tg_name, ?_⟩)) ?_) (join_fits (by rw [List.length_map]; omega))) (by rw [nil_text]; rfl)
  · refine evd_if (tvd_B (evd_var rfl)) (fun e => ?_) fun e => ?_
    · rw [e]; exact Evd.is evd_str (congrArg Da.str (by decide +kernel))
    · rw [e]; exact Evd.is evd_str (congrArg Da.str (by decide +kernel))
  · rw [List.map_map, List.map_map]; rfl
/-- the signs of a number -/
def bitB (w n h : Nat) : Bool := decide ((n / 2 ^ (w - 1 - h)) % 2 = 1)
def bitsB (w n : Nat) : List Bool := (List.range w).map (bitB w n)
theorem bitsB_len (w n : Nat) : (bitsB w n).length = w := by unfold bitsB; rw [List.length_map, List.length_range]
theorem bitAnd_one (a : Nat) : Builtin.bitAnd (a : Int) 1 = ((a % 2 : Nat) : Int) := by
  unfold Builtin.bitAnd
  rw [decide_eq_true (Int.natCast_nonneg a), decide_eq_true (by omega : (0 : Int) ≤ 1)]
  show ((a &&& 1 : Nat) : Int) = _
  rw [Nat.and_one_is_mod]
theorem shift_int {w n h : Nat} (hh : h < w) : Builtin.bitAnd ((n : Int) / 2 ^ ((w : Int) - 1 - (0 + (h : Int))).toNat) 1 = (((n / 2 ^ (w - 1 - h)) % 2 : Nat) : Int) := by
  rw [show ((w : Int) - 1 - (0 + (h : Int))).toNat = w - 1 - h by omega, ← bitAnd_one]
  congr 1
theorem irng_pic (n : Nat) : irng 0 n = (List.range n).map fun i : Nat => Da.int (0 + (i : Int)) := rfl
theorem src_up {δ : List En} {te : TE} {n : Nat} (h : Evd K te δ (.int (n : Int))) (hn : n ≤ 2 ^ 61) : Srcd K (iRng1 (tCons te tNil)) δ ((List.range n).map fun i : Nat => Da.int (0 + (i : Int))) := by
  have q := src_rng1 (K := K) (δ := δ) (n := (n : Int)) (eva_cons h eva_nil) (by omega) (by omega)
  rw [Int.toNat_natCast] at q
  exact q
def sp_row_in (K : PySem.W.Frag) : Sp := PuSp K fun ds r => ∃ w n : Nat, ds = [.int (w : Int), .int (n : Int)] ∧ w ≤ 24 ∧ r = .str (rowS (bitsB w n))
def t_row_in (K : PySem.W.Frag) : TS := (tRet (tCall (sp_row_of K) [] E0 (tCons (tLc (iRng1 (tCons (tVar 0) tNil)) (gName 2) tYes (tOp rEq (tOp (rI0 fun i j => .int (Builtin.bitAnd i j)) (tOp (rI (fun _ j => 0 ≤ j) fun i j => .int (i / 2 ^ j.toNat)) (tVar 1) (tOp (rI0 fun i j => .int (i - j)) (tOp (rI0 fun i j => .int (i - j)) (tVar 0) (tC (.int 1))) (tVar 2))) (tC (.int 1))) (tC (.int 1))) [2]) tNil)))
def N_row_in : List Str := ["width", "number", "hole"]
theorem pure_row_in (h : sp_row_in K vs H Q E) : t_row_in K { nx := fun _ H' => Q .non H', rt := Q } (L2.start N_row_in vs) H := by
  refine pu_body h (fun ds r ⟨_, _, e, _⟩ => by rw [e]; exact Nat.le_add_left 2 1) ?_
  rintro _ _ ⟨w, n, rfl, hw, rfl⟩
  refine std_ret (evd_call (eva_cons (EvO.frz (evo_lcN (js := [2]) (xs := List.range w) (φ := fun i : Nat => Da.int (0 + (i : Int))) (f := fun i => Da.bl (bitB w n i)) (src_up (evd_var rfl) (by omega)) (fun j h => h) (by rw [List.length_range]; omega) fun i x ex => ⟨_, tg_name, ?e⟩)) eva_nil) ⟨bitsB w n, by unfold bitsB; rw [List.map_map]; rfl, by rw [bitsB_len]; exact hw, rfl⟩) rfl
  case e =>
  have hx : x < w := by have := List.mem_of_getElem? ex; exact List.mem_range.mp this
  have q := evd_op (K := K) (δ := [.rep (.int (w : Int)), .rep (.int (n : Int)), .rep (.int (0 + (x : Int)))]) (evd_op (evd_op (evd_var (i := 1) rfl) (evd_op (evd_op (evd_var (i := 0) rfl) (evd_int (i := 1)) (op2_I0 (g := fun i j => i - j))) (evd_var (i := 2) rfl) (op2_I0 (g := fun i j => i - j))) (op2_I (C := fun _ j => 0 ≤ j) (g := fun i j => i / 2 ^ j.toNat) (by show (0 : Int) ≤ (w : Int) - 1 - (0 + (x : Int)); omega))) (evd_int (i := 1)) (op2_I0 (g := fun i j => Builtin.bitAnd i j))) (evd_int (i := 1)) op2_eqI
  refine Evd.is q (congrArg Da.bl ?_)
  show decide (Builtin.bitAnd ((n : Int) / 2 ^ ((w : Int) - 1 - (0 + (x : Int))).toNat) 1 = 1) = _
  rw [shift_int hx]
  unfold bitB
  exact decide_eq_decide.mpr (by omega)
/-- the request suits the row -/
structure ReqOk (w : Nat) (q : Req) : Prop where
  dep : q.dep ≤ 12
  size : q.size ≤ 60
  holes : q.inR w
def sp_fits (K : PySem.W.Frag) : Sp := PuSp K fun ds r => ∃ (q : Req) (z : Str), ds = [q.da, .str z] ∧ rowOk z ∧ ReqOk z.length q ∧ r = .bl (q.sem z.cps.toList)
def t_fits (K : PySem.W.Frag) : TS := (tSeq (tDrop (tCall (sp_need_request K) [] E0 (tCons (tVar 0) tNil)))
  (tSeq (tDrop (tCall (sp_need_row K) [] E0 (tCons (tVar 1) tNil)))
  (tSeq (tDrop (tCall (sp_need_holes K) [] E0 (tCons (tCall (sp_holes_in K 14) [] E0 (tCons (tVar 0) tNil)) (tCons (tCB (rLenA K) (tCons (tVar 1) tNil)) tNil))))
  (tRet (tCall (sp_holds K 14) [] E0 (tCons (tVar 0) (tCons (tVar 1) tNil)))))))
def N_fits : List Str := ["request", "row"]
theorem pure_fits (h : sp_fits K vs H Q E) : t_fits K { nx := fun _ H' => Q .non H', rt := Q } (L2.start N_fits vs) H := by
  refine pu_body h (fun ds r ⟨_, _, e, _⟩ => by rw [e]; exact Nat.le_refl 2) ?_
  rintro _ _ ⟨q, z, rfl, hz, ok, rfl⟩
  have h24 := hz.2.1
  refine std_seq (std_drop (evd_call (eva_cons (evd_var rfl) eva_nil) ⟨q, rfl, ok.dep, fun x hx => by have := ok.holes x hx; omega, ok.size, rfl⟩) ?_)
  refine std_seq (std_drop (evd_call (eva_cons (evd_var rfl) eva_nil) ⟨z, rfl, hz, rfl⟩) ?_)
  have hd := ok.dep
  have hs := ok.size
  have hl := holes_size q
  refine std_seq (std_drop (evd_call (eva_cons (evd_call (eva_cons (evd_var rfl) eva_nil) ⟨q, rfl, by omega, by omega, rfl⟩) (eva_cons (evd_cb (eva_cons (evd_var rfl) eva_nil) (opn_lenS (by omega))) eva_nil)) ⟨q.holes, z.length, rfl, by omega, ok.holes, rfl⟩) ?_)
  exact std_ret (evd_call (eva_cons (evd_var rfl) (eva_cons (evd_var rfl) eva_nil)) ⟨q, z, rfl, by omega, h24, ok.holes, rfl⟩) rfl
end
end R
set_option maxHeartbeats 4123456
/-! QA: the first row that differs. -/
namespace R
open PySem L2
section
variable {K : PySem.W.Frag} {vs : List V} {H : Hp} {Q : VK} {E : XK}
def rowN (w n : Nat) : List Nat := (bitsB w n).map sgb
def firstD (w : Nat) (f : List Nat → Bool) : Da := match (List.range (2 ^ w)).find? (fun n => f (rowN w n)) with
  | none => .non
  | some n => .str (rowS (bitsB w n))
theorem first_none {w : Nat} {f : List Nat → Bool} (h : ∀ k, k < 2 ^ w → f (rowN w k) = false) : firstD w f = .non := by
  unfold firstD
  rw [List.find?_eq_none.mpr fun n hn => by rw [h n (List.mem_range.mp hn)]; exact fun z => nomatch z]
theorem first_some {w i : Nat} {f : List Nat → Bool} (hi : i < 2 ^ w) (h : ∀ k, k < i → f (rowN w k) = false) (e : f (rowN w i) = true) : firstD w f = .str (rowS (bitsB w i)) := by
  unfold firstD
  have : (List.range (2 ^ w)).find? (fun n => f (rowN w n)) = some i := List.find?_range_eq_some.mpr ⟨e, List.mem_range.mpr hi, fun j hj => by rw [h j hj]; rfl⟩
  rw [this]
theorem pow_int (w : Nat) : ((1 : Int) * 2 ^ ((w : Int)).toNat) = ((2 ^ w : Nat) : Int) := by
  rw [Int.toNat_natCast, Int.one_mul, Int.natCast_pow]; rfl
theorem pow_small {w : Nat} (h : w ≤ 10) : 2 ^ w ≤ 1024 := Nat.pow_le_pow_right (by decide) h
theorem evd_pow {δ : List En} {te : TE} {w : Nat} (h : Evd K te δ (.int (w : Int))) (hw : w ≤ 10) : Evd K (tOp (rI CPow fun i j => .int (i * 2 ^ j.toNat)) (tC (.int 1)) te) δ (.int ((2 ^ w : Nat) : Int)) := by
  have q := evd_op (K := K) (δ := δ) (evd_int (i := 1)) h (op2_I (C := CPow) (g := fun i j => i * 2 ^ j.toNat) (by unfold CPow; omega))
  exact Evd.is q (congrArg Da.int (pow_int w))
def sp_difference (K : PySem.W.Frag) : Sp := PuSp K fun ds r => ∃ (q p : Req) (w : Nat), ds = [q.da, p.da, .int (w : Int)] ∧ 1 ≤ w ∧ w ≤ 10 ∧ ReqOk w q ∧ ReqOk w p ∧ r = firstD w fun z => decide (q.sem z ≠ p.sem z)
def t_difference (K : PySem.W.Frag) : TS := (tSeq (tDrop (tCall (sp_need_request K) [] E0 (tCons (tVar 0) tNil)))
  (tSeq (tDrop (tCall (sp_need_request K) [] E0 (tCons (tVar 1) tNil)))
  (tSeq (tDrop (tCall (sp_need_width K) [] E0 (tCons (tVar 2) (tCons (tC (.int 10)) tNil))))
  (tSeq (tDrop (tCall (sp_need_holes K) [] E0 (tCons (tOp rCat (tCall (sp_holes_in K 14) [] E0 (tCons (tVar 0) tNil)) (tCall (sp_holes_in K 14) [] E0 (tCons (tVar 1) tNil))) (tCons (tVar 2) tNil))))
  (tSeq (tFor (iRng1 (tCons (tOp (rI CPow fun i j => .int (i * 2 ^ j.toNat)) (tC (.int 1)) (tVar 2)) tNil)) (gName 3) (tSeq (tAsg (tCall (sp_row_in K) [] E0 (tCons (tVar 2) (tCons (tVar 3) tNil))) (gName 4))
  (tIfS (tTest (tOp rNe (tCall (sp_holds K 14) [] E0 (tCons (tVar 0) (tCons (tVar 4) tNil))) (tCall (sp_holds K 14) [] E0 (tCons (tVar 1) (tCons (tVar 4) tNil))))) (tRet (tVar 4)) tNext)))
  (tRet (tC .non)))))))
def N_difference : List Str := ["request", "other", "width", "number", "row"]
theorem pure_difference (h : sp_difference K vs H Q E) : t_difference K { nx := fun _ H' => Q .non H', rt := Q } (L2.start N_difference vs) H := by
  refine pu_body h (fun ds r ⟨_, _, _, e, _⟩ => by rw [e]; exact Nat.le_add_left 3 2) ?_
  rintro _ _ ⟨q, p, w, rfl, h1, h2, oq, op, rfl⟩
  have d1 := oq.dep
  have d2 := op.dep
  have s1 := oq.size
  have s2 := op.size
  have l1 := holes_size q
  have l2 := holes_size p
  refine std_seq (std_drop (evd_call (eva_cons (evd_var rfl) eva_nil) ⟨q, rfl, oq.dep, fun x hx => by have := oq.holes x hx; omega, oq.size, rfl⟩) ?_)
  refine std_seq (std_drop (evd_call (eva_cons (evd_var rfl) eva_nil) ⟨p, rfl, op.dep, fun x hx => by have := op.holes x hx; omega, op.size, rfl⟩) ?_)
  refine std_seq (std_drop (evd_call (eva_cons (evd_var rfl) (eva_cons evd_int eva_nil)) ⟨(w : Int), 10, rfl, by omega, by omega, rfl⟩) ?_)
  refine std_seq (std_drop (evd_call (eva_cons (evo_op (evd_call (eva_cons (evd_var rfl) eva_nil) ⟨q, rfl, by omega, by omega, rfl⟩) (evd_call (eva_cons (evd_var rfl) eva_nil) ⟨p, rfl, by omega, by omega, rfl⟩) (op2o_cat (by rw [List.length_map, List.length_map]; omega))).frz (eva_cons (evd_var rfl) eva_nil)) ⟨q.holes ++ p.holes, w, by rw [List.map_append], by rw [List.length_append]; omega, fun x hx => (List.mem_append.mp hx).elim (oq.holes x) (op.holes x), rfl⟩) ?_)
  have h3 := pow_small h2
  refine std_seq (std_for (js := [3]) (src_up (evd_pow (evd_var rfl) h2) (by omega)) (fun i δ => (∀ k, k < i → decide (q.sem (rowN w k) ≠ p.sem (rowN w k)) = false) ∧ ∃ a b, δ = [.rep q.da, .rep p.da, .rep (.int (w : Int)), a, b]) ⟨fun k hk => absurd hk (Nat.not_lt_zero k), .any, .any, rfl⟩ ?_ ?_)
  · rintro i d δ1 e0 ⟨hk, a, b, rfl⟩
    rw [List.getElem?_map] at e0
    obtain ⟨n, e, rfl⟩ := Option.map_eq_some_iff.mp e0
    obtain ⟨hn, rfl⟩ : i < 2 ^ w ∧ i = n := by
      have := List.getElem?_eq_some_iff.mp e
      obtain ⟨a1, a2⟩ := this
      rw [List.getElem_range] at a2
      exact ⟨by rw [List.length_range] at a1; exact a1, a2⟩
    have z1 : (rowS (bitsB w i)).length = w := by rw [rowS_len, bitsB_len]
    refine ⟨_, tg_name, std_seq (std_asg (evd_call (eva_cons (evd_var rfl) (eva_cons (evd_var rfl) eva_nil)) ⟨w, i, by rw [Int.zero_add], by omega, rfl⟩) ?_)⟩
    refine std_if (b := !decide (q.sem (rowN w i) = p.sem (rowN w i))) (tvd_test (evd_op (evd_call (eva_cons (evd_var rfl) (eva_cons (evd_var rfl) eva_nil)) ⟨q, rowS (bitsB w i), rfl, by omega, by omega, by rw [z1]; exact oq.holes, by rw [rowS_cp]; rfl⟩) (evd_call (eva_cons (evd_var rfl) (eva_cons (evd_var rfl) eva_nil)) ⟨p, rowS (bitsB w i), rfl, by omega, by omega, by rw [z1]; exact op.holes, by rw [rowS_cp]; rfl⟩) op2_neB)) (fun z => ?_) fun z => std_next ?_
    · exact std_ret (evd_var rfl) (first_some hn hk (by rw [decide_not]; exact z)).symm
    · refine ⟨fun k hk1 => ?_, _, _, rfl⟩
      rcases Nat.lt_succ_iff_lt_or_eq.mp hk1 with hk1 | rfl
      · exact hk k hk1
      · rw [decide_not]; exact z
  · rintro δ ⟨hk, a, b, rfl⟩
    rw [List.length_map, List.length_range] at hk
    exact std_ret evd_non (first_none hk).symm
end
end R
set_option maxHeartbeats 4123456
/-! QB: the law's rows. -/
namespace R
open PySem L2
section
variable {K : PySem.W.Frag} {vs : List V} {H : Hp} {Q : VK} {E : XK} {δ : List En}
theorem ov_text : ("ov" : Str).cps.toList = [111, 118] := by decide +kernel
theorem ov_len : ("ov" : Str).length ≤ 100000 := by decide +kernel
theorem evd_ov {te : TE} {w n h : Nat} (e : Evd K te δ (.int (((n / 2 ^ (w - 1 - h)) % 2 : Nat) : Int))) : Evd K (tOp rIxS (tC (.str "ov")) te) δ (.str ⟨#[sgb (bitB w n h)]⟩) := by
  refine evd_op evd_str e (op2_ixS ov_len ?_)
  rw [ov_text]
  refine atI_nat ?_
  unfold sgb bitB
  rcases Nat.mod_two_eq_zero_or_one (n / 2 ^ (w - 1 - h)) with z | z <;> rw [z] <;> rfl
theorem evd_bit {tw tn th : TE} {w n h : Nat} (hh : h < w) (e1 : Evd K tw δ (.int (w : Int))) (e2 : Evd K tn δ (.int (n : Int))) (e3 : Evd K th δ (.int (0 + (h : Int)))) : Evd K (tOp (rI0 fun i j => .int (Builtin.bitAnd i j)) (tOp (rI (fun _ j => 0 ≤ j) fun i j => .int (i / 2 ^ j.toNat)) tn (tOp (rI0 fun i j => .int (i - j)) (tOp (rI0 fun i j => .int (i - j)) tw (tC (.int 1))) th)) (tC (.int 1))) δ (.int (((n / 2 ^ (w - 1 - h)) % 2 : Nat) : Int)) := by
  have q := evd_op (K := K) (δ := δ) (evd_op e2 (evd_op (evd_op e1 (evd_int (i := 1)) (op2_I0 (g := fun i j => i - j))) e3 (op2_I0 (g := fun i j => i - j))) (op2_I (C := fun _ j => 0 ≤ j) (g := fun i j => i / 2 ^ j.toNat) (by show (0 : Int) ≤ (w : Int) - 1 - (0 + (h : Int)); omega))) (evd_int (i := 1)) (op2_I0 (g := fun i j => Builtin.bitAnd i j))
  exact Evd.is q (congrArg Da.int (shift_int hh))
/-- the comprehension that writes a row -/
theorem evd_rowc {tw tn : TE} {w n k : Nat} (hw : w ≤ 24) (ev : Evd K tw δ (.int (w : Int))) (h : ∀ x : Nat, Evd K tw ((wipeE δ [k]).set k (.rep (.int (0 + (x : Int))))) (.int (w : Int)) ∧ Evd K tn ((wipeE δ [k]).set k (.rep (.int (0 + (x : Int))))) (.int (n : Int)) ∧ Evd K (tVar k) ((wipeE δ [k]).set k (.rep (.int (0 + (x : Int))))) (.int (0 + (x : Int)))) :
    Evd K (tBM K "str" (rJoin K) (tC (.str "")) (tCons (tLc (iRng1 (tCons tw tNil)) (gName k) tYes (tOp rIxS (tC (.str "ov")) (tOp (rI0 fun i j => .int (Builtin.bitAnd i j)) (tOp (rI (fun _ j => 0 ≤ j) fun i j => .int (i / 2 ^ j.toNat)) tn (tOp (rI0 fun i j => .int (i - j)) (tOp (rI0 fun i j => .int (i - j)) tw (tC (.int 1))) (tVar k))) (tC (.int 1)))) [k]) tNil)) δ (.str (rowS (bitsB w n))) := by
  refine Evd.is (evd_join (ys := ((bitsB w n).map sgb).map fun c => (⟨#[c]⟩ : Str)) evd_str (Evd.is (EvO.frz (evo_lcN (js := [k]) (xs := List.range w) (φ := fun i : Nat => Da.int (0 + (i : Int))) (f := fun i => Da.str ⟨#[sgb (bitB w n i)]⟩) (src_up ev (by omega)) (fun j h => h) (by rw [List.length_range]; omega) fun i x ex => ?_)) ?_) (join_fits (by rw [List.length_map, bitsB_len]; omega))) (by rw [nil_text]; rfl)
  · have hx : x < w := List.mem_range.mp (List.mem_of_getElem? ex)
    obtain ⟨a, b, c⟩ := h x
    exact ⟨_, tg_name, evd_ov (evd_bit hx a b c)⟩
  · unfold bitsB; rw [List.map_map, List.map_map, List.map_map]; rfl
def sp_law_first (K : PySem.W.Frag) : Sp := PuSp K fun ds r => ∃ (w : Nat) (ns : List Nat), ds = [.int (w : Int), .lst (ns.map fun n : Nat => .int (n : Int))] ∧ w ≤ 24 ∧ ns.length ≤ 2000 ∧ r = match ns with | [] => .non | n :: _ => .str (rowS (bitsB w n))
def t_law_first (K : PySem.W.Frag) : TS := (tRet (tIf (tTest (tOp (rEqD K) (tVar 1) (tLst tNil))) (tC .non) (tBM K "str" (rJoin K) (tC (.str "")) (tCons (tLc (iRng1 (tCons (tVar 0) tNil)) (gName 2) tYes (tOp rIxS (tC (.str "ov")) (tOp (rI0 fun i j => .int (Builtin.bitAnd i j)) (tOp (rI (fun _ j => 0 ≤ j) fun i j => .int (i / 2 ^ j.toNat)) (tOp (rIxL K) (tVar 1) (tC (.int 0))) (tOp (rI0 fun i j => .int (i - j)) (tOp (rI0 fun i j => .int (i - j)) (tVar 0) (tC (.int 1))) (tVar 2))) (tC (.int 1)))) [2]) tNil))))
def N_law_first : List Str := ["width", "wrong", "hole"]
theorem plns_ints : ∀ ns : List Nat, plns (ns.map fun n : Nat => Da.int (n : Int)) = true
  | [] => rfl
  | n :: ns => plns_ints ns
theorem deps_ints : ∀ ns : List Nat, deps (ns.map fun n : Nat => Da.int (n : Int)) ≤ 63
  | [] => Nat.zero_le _
  | n :: ns => by
    have := deps_ints ns
    show max (dep (Da.int (n : Int))) (deps (ns.map fun n : Nat => Da.int (n : Int))) ≤ 63
    exact Nat.max_le.mpr ⟨Nat.zero_le _, this⟩
theorem pure_law_first (h : sp_law_first K vs H Q E) : t_law_first K { nx := fun _ H' => Q .non H', rt := Q } (L2.start N_law_first vs) H := by
  refine pu_body h (fun ds r ⟨_, _, e, _⟩ => by rw [e]; exact Nat.le_add_left 2 1) ?_
  rintro _ _ ⟨w, ns, rfl, hw, hl, rfl⟩
  refine std_ret (evd_if (tvd_test (evd_op (evd_var rfl) (evo_lst eva_nil (by decide)).frz (op2_eqNil (plns_ints ns) (deps_ints ns)))) (fun e => ?_) fun e => ?_) rfl
  · cases ns with
    | nil => exact evd_non
    | cons n ns => cases e
  · cases ns with
    | nil => cases e
    | cons n ns => exact evd_rowc hw (evd_var rfl) fun x => ⟨evd_var rfl, evd_op (evd_var rfl) evd_int (op2_ixL (d := .int (n : Int)) (atI_nat (j := 0) rfl)), evd_var rfl⟩
def sp_law_rows (K : PySem.W.Frag) : Sp := PuSp K fun ds r => ∃ w : Nat, ds = [.int (w : Int)] ∧ w ≤ 10 ∧ r = .lst ((List.range (2 ^ w)).map fun n => .str (rowS (bitsB w n)))
def t_law_rows (K : PySem.W.Frag) : TS := (tRet (tLc (iRng1 (tCons (tOp (rI CPow fun i j => .int (i * 2 ^ j.toNat)) (tC (.int 1)) (tVar 0)) tNil)) (gName 1) tYes (tBM K "str" (rJoin K) (tC (.str "")) (tCons (tLc (iRng1 (tCons (tVar 0) tNil)) (gName 2) tYes (tOp rIxS (tC (.str "ov")) (tOp (rI0 fun i j => .int (Builtin.bitAnd i j)) (tOp (rI (fun _ j => 0 ≤ j) fun i j => .int (i / 2 ^ j.toNat)) (tVar 1) (tOp (rI0 fun i j => .int (i - j)) (tOp (rI0 fun i j => .int (i - j)) (tVar 0) (tC (.int 1))) (tVar 2))) (tC (.int 1)))) [2]) tNil)) [1]))
def N_law_rows : List Str := ["width", "number", "hole"]
theorem pure_law_rows (h : sp_law_rows K vs H Q E) : t_law_rows K { nx := fun _ H' => Q .non H', rt := Q } (L2.start N_law_rows vs) H := by
  refine pu_body h (fun ds r ⟨_, e, _⟩ => by rw [e]; exact Nat.le_add_left 1 2) ?_
  rintro _ _ ⟨w, rfl, hw, rfl⟩
  have h3 := pow_small hw
  refine std_ret (EvO.frz (evo_lcN (js := [1]) (xs := List.range (2 ^ w)) (φ := fun i : Nat => Da.int (0 + (i : Int))) (f := fun n => Da.str (rowS (bitsB w n))) (src_up (evd_pow (evd_var rfl) hw) (by omega)) (fun j h => h) (by rw [List.length_range]; omega) fun i x ex => ⟨_, tg_name, ?_⟩)) rfl
  exact evd_rowc (by omega) (evd_var rfl) fun y => ⟨evd_var rfl, Evd.is (evd_var (d := .int (0 + (x : Int))) rfl) (congrArg Da.int (Int.zero_add _)), evd_var rfl⟩
end
end R
set_option maxHeartbeats 4123456
/-! QC: steps and programs. -/
namespace R
open PySem L2
section
variable {K : PySem.W.Frag} {vs : List V} {H : Hp} {Q : VK} {E : XK} {δ : List En}
inductive Stp where
  | put (a b : Nat) | drop (a h c d : Nat)
namespace Stp
def da : Stp → Da
  | .put a b => .tup [.str "put", .int (a : Int), .int (b : Int)]
  | .drop a h c d => .tup [.str "drop", .int (a : Int), .int (h : Int), .int (c : Int), .int (d : Int)]
def Ok : Stp → Prop
  | .put a b => a < 8 ∧ b < 8
  | .drop a h c d => a < 8 ∧ h < 24 ∧ c < 8 ∧ d < 8
def needle : Stp → List Nat
  | .put _ _ => []
  | .drop _ h _ _ => [h]
def go (row : List Nat) (t : Nat) : Stp → Nat
  | .put a b => if a = t then b else t
  | .drop a h c d => if a = t then (if row[h]? == some 118 then c else d) else t
end Stp
def landN (ps : List Stp) (row : List Nat) (t : Nat) : Nat := ps.foldl (Stp.go row) t
def needN (ps : List Stp) : List Nat := ps.flatMap Stp.needle
def progD (ps : List Stp) : Da := .lst (ps.map Stp.da)
structure ProgOk (ps : List Stp) : Prop where
  len : ps.length ≤ 60
  ok : ∀ p ∈ ps, p.Ok
def sp_is_tray (K : PySem.W.Frag) : Sp := PuSp K fun ds r => ∃ n : Nat, ds = [.int (n : Int)] ∧ n < 8 ∧ r = .bl true
def t_is_tray (K : PySem.W.Frag) : TS := (tRet (tCall (sp_is_integer K) [] E0 (tCons (tVar 0) (tCons (tC (.int 0)) (tCons (tOp (rI0 fun i j => .int (i - j)) (tC (.int 8)) (tC (.int 1))) tNil)))))
def N_is_tray : List Str := ["value"]
theorem pure_is_tray (h : sp_is_tray K vs H Q E) : t_is_tray K { nx := fun _ H' => Q .non H', rt := Q } (L2.start N_is_tray vs) H := by
  refine pu_body h (fun ds r ⟨_, e, _⟩ => by rw [e]; exact Nat.le_refl 1) ?_
  rintro _ _ ⟨n, rfl, hn, rfl⟩
  exact std_ret (evd_call (eva_cons (evd_var rfl) (eva_cons evd_int (eva_cons (evd_op evd_int evd_int op2_I0) eva_nil))) ⟨(n : Int), 0, 8 - 1, rfl, rfl⟩) (by rw [decide_eq_true (by omega), decide_eq_true (by omega)]; rfl)
def sp_is_step (K : PySem.W.Frag) : Sp := PuSp K fun ds r => ∃ p : Stp, ds = [p.da] ∧ p.Ok ∧ r = .bl true
def t_is_step (K : PySem.W.Frag) : TS := (tSeq (tIfS (tOr (tNot (tB (tCB (rIsi K) (tCons (tVar 0) (tCons (tC (.ty "tuple")) tNil))))) (tTest (tOp rEq (tCB (rLenA K) (tCons (tVar 0) tNil)) (tC (.int 0))))) (tRet (tC (.bl false))) tNext)
  (tSeq (tIfS (tAnd (tTest (tOp rEq (tCB (rLenA K) (tCons (tVar 0) tNil)) (tC (.int 5)))) (tTest (tOp rEq (tOp (rIxT K) (tVar 0) (tC (.int 0))) (tC (.str "drop"))))) (tRet (tAndV (tCall (sp_is_integer K) [] E0 (tCons (tOp (rIxT K) (tVar 0) (tC (.int 2))) (tCons (tC (.int 0)) (tCons (tOp (rI0 fun i j => .int (i - j)) (tC (.int 24)) (tC (.int 1))) tNil)))) (tCB (rAll K) (tCons (tLc (iTup K (tTup (tCons (tC (.int 1)) (tCons (tC (.int 3)) (tCons (tC (.int 4)) tNil))))) (gName 1) tYes (tCall (sp_is_tray K) [] E0 (tCons (tOp (rIxT K) (tVar 0) (tVar 1)) tNil)) [1]) tNil)))) tNext)
  (tRet (tAndV (tOp rEq (tCB (rLenA K) (tCons (tVar 0) tNil)) (tC (.int 3))) (tAndV (tOp rEq (tOp (rIxT K) (tVar 0) (tC (.int 0))) (tC (.str "put"))) (tAndV (tCall (sp_is_tray K) [] E0 (tCons (tOp (rIxT K) (tVar 0) (tC (.int 1))) tNil)) (tCall (sp_is_tray K) [] E0 (tCons (tOp (rIxT K) (tVar 0) (tC (.int 2))) tNil))))))))
def N_is_step : List Str := ["value", "at"]
theorem pure_is_step (h : sp_is_step K vs H Q E) : t_is_step K { nx := fun _ H' => Q .non H', rt := Q } (L2.start N_is_step vs) H := by
  refine pu_body h (fun ds r ⟨_, e, _⟩ => by rw [e]; exact Nat.le_add_left 1 1) ?_
  rintro _ _ ⟨p, rfl, ok, rfl⟩
  cases p with
  | put a b =>
    refine std_seq (std_if (b := false) (Tvd.is (tvd_or (tvd_not (tvd_B (evd_isiN true "tuple" (evd_var rfl)))) fun _ => tvd_test (evd_op (evd_cb (d := .int 3) (eva_cons (evd_var rfl) eva_nil) opn_lenT) evd_int op2_eqI)) rfl) (fun e => nomatch e) fun _ => std_next ?_)
    refine std_seq (std_if (b := false) (Tvd.is (tvd_and (a := false) (b := false) (tvd_test (evd_op (evd_cb (d := .int 3) (eva_cons (evd_var rfl) eva_nil) opn_lenT) evd_int op2_eqI)) fun e => nomatch e) rfl) (fun e => nomatch e) fun _ => std_next ?_)
    exact std_ret (d := .bl (true && (true && (true && true)))) (evd_and (evd_op (d := .bl true) (evd_cb (d := .int 3) (eva_cons (evd_var rfl) eva_nil) opn_lenT) evd_int op2_eqI) fun _ => evd_and (evd_op (evd_op (evd_var rfl) evd_int (op2_ixT (d := .str "put") (atI_nat (j := 0) rfl))) evd_str (txt_eq _ _ (by decide +kernel))) fun _ => evd_and (evd_call (eva_cons (evd_op (evd_var rfl) evd_int (op2_ixT (d := .int (a : Int)) (atI_nat (j := 1) rfl))) eva_nil) ⟨a, rfl, ok.1, rfl⟩) fun _ => evd_call (eva_cons (evd_op (evd_var rfl) evd_int (op2_ixT (d := .int (b : Int)) (atI_nat (j := 2) rfl))) eva_nil) ⟨b, rfl, ok.2, rfl⟩) rfl
  | drop a h c d =>
    obtain ⟨o1, o2, o3, o4⟩ := ok
    refine std_seq (std_if (b := false) (Tvd.is (tvd_or (tvd_not (tvd_B (evd_isiN true "tuple" (evd_var rfl)))) fun _ => tvd_test (evd_op (evd_cb (d := .int 5) (eva_cons (evd_var rfl) eva_nil) opn_lenT) evd_int op2_eqI)) rfl) (fun e => nomatch e) fun _ => std_next ?_)
    refine std_seq (std_if (b := true) (Tvd.is (tvd_and (a := true) (b := true) (tvd_test (evd_op (evd_cb (d := .int 5) (eva_cons (evd_var rfl) eva_nil) opn_lenT) evd_int op2_eqI)) fun _ => tvd_test (evd_op (evd_op (evd_var rfl) evd_int (op2_ixT (d := .str "drop") (atI_nat (j := 0) rfl))) evd_str (txt_eq _ _ (by decide +kernel)))) rfl) (fun _ => ?_) fun e => nomatch e)
    refine std_ret (d := .bl (true && (([(1 : Int), 3, 4].map Da.int).all fun _ => true))) (evd_and (Evd.is (evd_call (eva_cons (evd_op (evd_var rfl) evd_int (op2_ixT (d := .int (h : Int)) (atI_nat (j := 2) rfl))) (eva_cons evd_int (eva_cons (evd_op evd_int evd_int op2_I0) eva_nil))) ⟨(h : Int), 0, 24 - 1, rfl, rfl⟩) (by rw [decide_eq_true (by omega), decide_eq_true (by omega)]; rfl)) fun _ => evd_allC (f := fun _ => true) (src_tup (ds := [(1 : Int), 3, 4].map Da.int) (evd_tup (eva_cons evd_int (eva_cons evd_int (eva_cons evd_int eva_nil))) (Nat.le_add_left 3 99997))) (fun j h => h) (by decide) fun i x e => ⟨_, tg_name, ?_⟩) rfl
    match i, e with
    | 0, e => cases e; exact evd_call (eva_cons (evd_op (evd_var rfl) (evd_var rfl) (op2_ixT (d := .int (a : Int)) (atI_nat (j := 1) rfl))) eva_nil) ⟨a, rfl, o1, rfl⟩
    | 1, e => cases e; exact evd_call (eva_cons (evd_op (evd_var rfl) (evd_var rfl) (op2_ixT (d := .int (c : Int)) (atI_nat (j := 3) rfl))) eva_nil) ⟨c, rfl, o3, rfl⟩
    | 2, e => cases e; exact evd_call (eva_cons (evd_op (evd_var rfl) (evd_var rfl) (op2_ixT (d := .int (d : Int)) (atI_nat (j := 4) rfl))) eva_nil) ⟨d, rfl, o4, rfl⟩
    | n + 3, e => cases e
theorem prog_get {ps : List Stp} {i : Nat} {d : Da} (e : (ps.map Stp.da)[i]? = some d) : ∃ p, ps[i]? = some p ∧ d = p.da := by
  rw [List.getElem?_map] at e
  obtain ⟨p, e1, e2⟩ := Option.map_eq_some_iff.mp e
  exact ⟨p, e1, e2.symm⟩
def sp_is_program (K : PySem.W.Frag) : Sp := PuSp K fun ds r => ∃ ps : List Stp, ds = [progD ps] ∧ ProgOk ps ∧ r = .bl true
def t_is_program (K : PySem.W.Frag) : TS := (tRet (tAndV (tCall (sp_is_list K) [] E0 (tCons (tVar 0) (tCons (tC (.int 60)) tNil))) (tCB (rAll K) (tCons (tLc (iList K (tVar 0)) (gName 1) tYes (tCall (sp_is_step K) [] E0 (tCons (tVar 1) tNil)) [1]) tNil))))
def N_is_program : List Str := ["value", "step"]
theorem pure_is_program (h : sp_is_program K vs H Q E) : t_is_program K { nx := fun _ H' => Q .non H', rt := Q } (L2.start N_is_program vs) H := by
  refine pu_body h (fun ds r ⟨_, e, _⟩ => by rw [e]; exact Nat.le_add_left 1 1) ?_
  rintro _ _ ⟨ps, rfl, ok, rfl⟩
  have hl := ok.len
  refine std_ret (d := .bl (true && ((ps.map Stp.da).all fun _ => true))) (evd_and (Evd.is (evd_call (eva_cons (evd_var rfl) (eva_cons evd_int eva_nil)) ⟨true, ps.map Stp.da, 60, rfl, rfl⟩) (by rw [decide_eq_true (by rw [List.length_map]; omega)])) fun _ => evd_allC (f := fun _ => true) (src_list (ds := ps.map Stp.da) (evd_var rfl)) (fun j h => h) (by rw [List.length_map]; omega) fun i x e => ?_) (by rw [all_true]; rfl)
  obtain ⟨p, e1, rfl⟩ := prog_get e
  exact ⟨_, tg_name, evd_call (eva_cons (evd_var rfl) eva_nil) ⟨p, rfl, ok.ok p (List.mem_of_getElem? e1), rfl⟩⟩
def sp_need_program (K : PySem.W.Frag) : Sp := PuSp K fun ds r => ∃ ps : List Stp, ds = [progD ps] ∧ ProgOk ps ∧ r = .non
def t_need_program (K : PySem.W.Frag) : TS := (tIfS (tNot (tB (tCall (sp_is_program K) [] E0 (tCons (tVar 0) tNil)))) tNever tNext)
def N_need_program : List Str := ["program"]
theorem pure_need_program (h : sp_need_program K vs H Q E) : t_need_program K { nx := fun _ H' => Q .non H', rt := Q } (L2.start N_need_program vs) H := by
  refine pu_body h (fun ds r ⟨_, e, _⟩ => by rw [e]; exact Nat.le_refl 1) ?_
  rintro _ _ ⟨ps, rfl, ok, rfl⟩
  exact std_if (b := !true) (tvd_not (tvd_B (evd_call (eva_cons (evd_var rfl) eva_nil) ⟨ps, rfl, ok, rfl⟩))) (fun e => nomatch e) fun _ => std_next rfl
def Stp.isDrop : Stp → Bool
  | .put _ _ => false
  | .drop _ _ _ _ => true
def Stp.two : Stp → Nat
  | .put _ b => b
  | .drop _ h _ _ => h
theorem needN_eq : ∀ ps : List Stp, (ps.filter Stp.isDrop).map Stp.two = needN ps
  | [] => rfl
  | .put _ _ :: ps => needN_eq ps
  | .drop _ h _ _ :: ps => congrArg (h :: ·) (needN_eq ps)
def sp_needled (K : PySem.W.Frag) : Sp := PuSp K fun ds r => ∃ ps : List Stp, ds = [progD ps] ∧ ps.length ≤ 60 ∧ r = .lst ((needN ps).map fun h : Nat => .int (h : Int))
def t_needled (K : PySem.W.Frag) : TS := (tRet (tLc (iList K (tVar 0)) (gName 1) (tTest (tOp rEq (tOp (rIxT K) (tVar 1) (tC (.int 0))) (tC (.str "drop")))) (tOp (rIxT K) (tVar 1) (tC (.int 2))) [1]))
def N_needled : List Str := ["program", "step"]
theorem pure_needled (h : sp_needled K vs H Q E) : t_needled K { nx := fun _ H' => Q .non H', rt := Q } (L2.start N_needled vs) H := by
  refine pu_body h (fun ds r ⟨_, e, _⟩ => by rw [e]; exact Nat.le_add_left 1 1) ?_
  rintro _ _ ⟨ps, rfl, hl, rfl⟩
  refine std_ret (EvO.frz (evo_lcM (js := [1]) (xs := ps) (φ := Stp.da) (keep := Stp.isDrop) (f := fun p => Da.int ((p.two : Nat) : Int)) (src_list (evd_var rfl)) (fun j h => h) (by omega) fun i p e => ⟨_, tg_name, ?_, fun _ => ?_⟩)) (by rw [← needN_eq, List.map_map]; rfl)
  · cases p with
    | put a b => exact tvd_test (evd_op (evd_op (evd_var rfl) evd_int (op2_ixT (d := .str "put") (atI_nat (j := 0) rfl))) evd_str (txt_eq _ _ (by show decide (("put" : Str) = "drop") = false; decide +kernel)))
    | drop a h c d => exact tvd_test (evd_op (evd_op (evd_var rfl) evd_int (op2_ixT (d := .str "drop") (atI_nat (j := 0) rfl))) evd_str (txt_eq _ _ (by show decide (("drop" : Str) = "drop") = true; decide +kernel)))
  · cases p with
    | put a b => exact evd_op (evd_var rfl) evd_int (op2_ixT (d := .int (b : Int)) (atI_nat (j := 2) rfl))
    | drop a h c d => exact evd_op (evd_var rfl) evd_int (op2_ixT (d := .int (h : Int)) (atI_nat (j := 2) rfl))
theorem land_snoc (ps : List Stp) (p : Stp) (row : List Nat) (t : Nat) : landN (ps ++ [p]) row t = Stp.go row (landN ps row t) p := by
  unfold landN; rw [List.foldl_append]; rfl
theorem go_put {row : List Nat} {t a b : Nat} : Stp.go row t (.put a b) = if a = t then b else t := rfl
theorem go_drop {row : List Nat} {t a h c d : Nat} : Stp.go row t (.drop a h c d) = if a = t then (if row[h]? == some 118 then c else d) else t := rfl
def sp_landing (K : PySem.W.Frag) : Sp := PuSp K fun ds r => ∃ (ps : List Stp) (z : Str), ds = [progD ps, .str z] ∧ ps.length ≤ 60 ∧ z.length ≤ 24 ∧ (∀ h ∈ needN ps, h < z.length) ∧ r = .int (landN ps z.cps.toList 0 : Nat)
def t_landing (K : PySem.W.Frag) : TS := (tSeq (tAsg (tC (.int 0)) (gName 2))
  (tSeq (tFor (iList K (tVar 0)) (gName 3) (tIfS (tAnd (tTest (tOp rEq (tOp (rIxT K) (tVar 3) (tC (.int 1))) (tVar 2))) (tTest (tOp rEq (tOp (rIxT K) (tVar 3) (tC (.int 0))) (tC (.str "put"))))) (tAsg (tOp (rIxT K) (tVar 3) (tC (.int 2))) (gName 2)) (tIfS (tTest (tOp rEq (tOp (rIxT K) (tVar 3) (tC (.int 1))) (tVar 2))) (tAsg (tIf (tB (tCall (sp_is_open K) [] E0 (tCons (tVar 1) (tCons (tOp (rIxT K) (tVar 3) (tC (.int 2))) tNil)))) (tOp (rIxT K) (tVar 3) (tC (.int 3))) (tOp (rIxT K) (tVar 3) (tC (.int 4)))) (gName 2)) tNext)))
  (tRet (tVar 2))))
def N_landing : List Str := ["program", "row", "tray", "step"]
theorem need_mem {ps : List Stp} {a h c d : Nat} (m : Stp.drop a h c d ∈ ps) : h ∈ needN ps := List.mem_flatMap.mpr ⟨_, m, List.mem_singleton.mpr rfl⟩
theorem pure_landing (h : sp_landing K vs H Q E) : t_landing K { nx := fun _ H' => Q .non H', rt := Q } (L2.start N_landing vs) H := by
  refine pu_body h (fun ds r ⟨_, _, e, _⟩ => by rw [e]; exact Nat.le_add_left 2 2) ?_
  rintro _ _ ⟨ps, z, rfl, hl, hz, hn, rfl⟩
  refine std_seq (std_asg evd_int (std_seq ?_))
  refine std_for (js := [3]) (src_list (ds := ps.map Stp.da) (evd_var rfl)) (fun i δ => ∃ e, δ = [.rep (progD ps), .rep (.str z), .rep (.int ((landN (ps.take i) z.cps.toList 0 : Nat) : Int)), e]) ⟨.any, rfl⟩ ?_ ?_
  · rintro i d δ1 e0 ⟨e2, rfl⟩
    obtain ⟨p, e, rfl⟩ := prog_get e0
    have et : ps.take (i + 1) = ps.take i ++ [p] := by rw [List.take_add_one, e]; rfl
    have hm := List.mem_of_getElem? e
    rw [et, land_snoc]
    generalize landN (ps.take i) z.cps.toList 0 = t
    refine ⟨_, tg_name, ?_⟩
    cases p with
    | put a b =>
      by_cases ha : a = t
      · refine std_if (b := true) (Tvd.is (tvd_and (a := true) (b := true) (Tvd.is (tvd_test (evd_op (evd_op (evd_var rfl) evd_int (op2_ixT (d := .int (a : Int)) (atI_nat (j := 1) rfl))) (evd_var rfl) op2_eqI)) (decide_eq_true (by omega))) fun _ => tvd_test (evd_op (evd_op (evd_var rfl) evd_int (op2_ixT (d := .str "put") (atI_nat (j := 0) rfl))) evd_str (txt_eq _ _ (by decide +kernel)))) rfl) (fun _ => ?_) fun e => nomatch e
        refine std_asg (evd_op (evd_var rfl) evd_int (op2_ixT (d := .int (b : Int)) (atI_nat (j := 2) rfl))) ?_
        exact ⟨_, by rw [go_put, if_pos ha]; rfl⟩
      · refine std_if (b := false) (Tvd.is (tvd_and (a := false) (b := false) (Tvd.is (tvd_test (evd_op (evd_op (evd_var rfl) evd_int (op2_ixT (d := .int (a : Int)) (atI_nat (j := 1) rfl))) (evd_var rfl) op2_eqI)) (decide_eq_false (by omega))) fun e => nomatch e) rfl) (fun e => nomatch e) fun _ => ?_
        refine std_if (b := false) (Tvd.is (tvd_test (evd_op (evd_op (evd_var rfl) evd_int (op2_ixT (d := .int (a : Int)) (atI_nat (j := 1) rfl))) (evd_var rfl) op2_eqI)) (decide_eq_false (by omega))) (fun e => nomatch e) fun _ => std_next ?_
        exact ⟨_, by rw [go_put, if_neg ha]; rfl⟩
    | drop a x c d =>
      have hx := hn x (need_mem hm)
      have hx2 : x < z.cps.toList.length := by rw [← str_len]; exact hx
      by_cases ha : a = t
      · refine std_if (b := false) (Tvd.is (tvd_and (a := true) (b := false) (Tvd.is (tvd_test (evd_op (evd_op (evd_var rfl) evd_int (op2_ixT (d := .int (a : Int)) (atI_nat (j := 1) rfl))) (evd_var rfl) op2_eqI)) (decide_eq_true (by omega))) fun _ => tvd_test (evd_op (evd_op (evd_var rfl) evd_int (op2_ixT (d := .str "drop") (atI_nat (j := 0) rfl))) evd_str (txt_eq _ _ (by decide +kernel)))) rfl) (fun e => nomatch e) fun _ => ?_
        refine std_if (b := true) (Tvd.is (tvd_test (evd_op (evd_op (evd_var rfl) evd_int (op2_ixT (d := .int (a : Int)) (atI_nat (j := 1) rfl))) (evd_var rfl) op2_eqI)) (decide_eq_true (by omega))) (fun _ => ?_) fun e => nomatch e
        refine std_asg (d := .int ((if (z.cps.toList[x]? == some 118) = true then c else d : Nat) : Int)) (evd_if (b := z.cps.toList[x]? == some 118) (Tvd.is (tvd_B (evd_call (eva_cons (evd_var rfl) (eva_cons (evd_op (evd_var rfl) evd_int (op2_ixT (d := .int (x : Int)) (atI_nat (j := 2) rfl))) eva_nil)) ⟨z, (x : Int), z.cps.toList[x], rfl, hz, atI_nat (List.getElem?_eq_getElem hx2), rfl⟩)) ?_) (fun e => ?_) fun e => ?_) ?_
        · rw [List.getElem?_eq_getElem hx2]; rfl
        · rw [if_pos e]; exact evd_op (evd_var rfl) evd_int (op2_ixT (d := .int (c : Int)) (atI_nat (j := 3) rfl))
        · rw [if_neg (by rw [e]; exact fun z => nomatch z)]; exact evd_op (evd_var rfl) evd_int (op2_ixT (d := .int (d : Int)) (atI_nat (j := 4) rfl))
        · exact ⟨_, by rw [go_drop, if_pos ha]; rfl⟩
      · refine std_if (b := false) (Tvd.is (tvd_and (a := false) (b := false) (Tvd.is (tvd_test (evd_op (evd_op (evd_var rfl) evd_int (op2_ixT (d := .int (a : Int)) (atI_nat (j := 1) rfl))) (evd_var rfl) op2_eqI)) (decide_eq_false (by omega))) fun e => nomatch e) rfl) (fun e => nomatch e) fun _ => ?_
        refine std_if (b := false) (Tvd.is (tvd_test (evd_op (evd_op (evd_var rfl) evd_int (op2_ixT (d := .int (a : Int)) (atI_nat (j := 1) rfl))) (evd_var rfl) op2_eqI)) (decide_eq_false (by omega))) (fun e => nomatch e) fun _ => std_next ?_
        exact ⟨_, by rw [go_drop, if_neg ha]; rfl⟩
  · rintro δ ⟨e, rfl⟩
    rw [List.length_map, List.take_length]
    exact std_ret (evd_var rfl) rfl
theorem needN_len : ∀ ps : List Stp, (needN ps).length ≤ ps.length
  | [] => Nat.le_refl 0
  | .put _ _ :: ps => Nat.le_succ_of_le (needN_len ps)
  | .drop _ h _ _ :: ps => Nat.succ_le_succ (needN_len ps)
def sp_fault (K : PySem.W.Frag) : Sp := PuSp K fun ds r => ∃ (ps : List Stp) (q : Req) (w : Nat), ds = [progD ps, q.da, .int (w : Int)] ∧ 1 ≤ w ∧ w ≤ 10 ∧ ProgOk ps ∧ ReqOk w q ∧ (∀ h ∈ needN ps, h < w) ∧ r = firstD w fun z => decide (decide (landN ps z 0 = 1) ≠ q.sem z)
def t_fault (K : PySem.W.Frag) : TS := (tSeq (tDrop (tCall (sp_need_program K) [] E0 (tCons (tVar 0) tNil)))
  (tSeq (tDrop (tCall (sp_need_request K) [] E0 (tCons (tVar 1) tNil)))
  (tSeq (tDrop (tCall (sp_need_width K) [] E0 (tCons (tVar 2) (tCons (tC (.int 10)) tNil))))
  (tSeq (tDrop (tCall (sp_need_holes K) [] E0 (tCons (tOp rCat (tCall (sp_holes_in K 14) [] E0 (tCons (tVar 1) tNil)) (tCall (sp_needled K) [] E0 (tCons (tVar 0) tNil))) (tCons (tVar 2) tNil))))
  (tSeq (tFor (iRng1 (tCons (tOp (rI CPow fun i j => .int (i * 2 ^ j.toNat)) (tC (.int 1)) (tVar 2)) tNil)) (gName 3) (tSeq (tAsg (tCall (sp_row_in K) [] E0 (tCons (tVar 2) (tCons (tVar 3) tNil))) (gName 4))
  (tIfS (tTest (tOp rNe (tOp rEq (tCall (sp_landing K) [] E0 (tCons (tVar 0) (tCons (tVar 4) tNil))) (tC (.int 1))) (tCall (sp_holds K 14) [] E0 (tCons (tVar 1) (tCons (tVar 4) tNil))))) (tRet (tVar 4)) tNext)))
  (tRet (tC .non)))))))
def N_fault : List Str := ["program", "request", "width", "number", "row"]
theorem range_at {n i x : Nat} (e : (List.range n)[i]? = some x) : i < n ∧ i = x := by
  obtain ⟨a1, a2⟩ := List.getElem?_eq_some_iff.mp e
  rw [List.getElem_range] at a2
  exact ⟨by rw [List.length_range] at a1; exact a1, a2⟩
theorem pure_fault (h : sp_fault K vs H Q E) : t_fault K { nx := fun _ H' => Q .non H', rt := Q } (L2.start N_fault vs) H := by
  refine pu_body h (fun ds r ⟨_, _, _, e, _⟩ => by rw [e]; exact Nat.le_add_left 3 2) ?_
  rintro _ _ ⟨ps, q, w, rfl, h1, h2, op, oq, hn, rfl⟩
  have d1 := oq.dep
  have s1 := oq.size
  have s2 := op.len
  have l1 := holes_size q
  have l2 := needN_len ps
  refine std_seq (std_drop (evd_call (eva_cons (evd_var rfl) eva_nil) ⟨ps, rfl, op, rfl⟩) ?_)
  refine std_seq (std_drop (evd_call (eva_cons (evd_var rfl) eva_nil) ⟨q, rfl, oq.dep, fun x hx => by have := oq.holes x hx; omega, oq.size, rfl⟩) ?_)
  refine std_seq (std_drop (evd_call (eva_cons (evd_var rfl) (eva_cons evd_int eva_nil)) ⟨(w : Int), 10, rfl, by omega, by omega, rfl⟩) ?_)
  refine std_seq (std_drop (evd_call (eva_cons (evo_op (evd_call (eva_cons (evd_var rfl) eva_nil) ⟨q, rfl, by omega, by omega, rfl⟩) (evd_call (eva_cons (evd_var rfl) eva_nil) ⟨ps, rfl, s2, rfl⟩) (op2o_cat (by rw [List.length_map, List.length_map]; omega))).frz (eva_cons (evd_var rfl) eva_nil)) ⟨q.holes ++ needN ps, w, by rw [List.map_append], by rw [List.length_append]; omega, fun x hx => (List.mem_append.mp hx).elim (oq.holes x) (hn x), rfl⟩) ?_)
  have h3 := pow_small h2
  refine std_seq (std_for (js := [3]) (src_up (evd_pow (evd_var rfl) h2) (by omega)) (fun i δ => (∀ k, k < i → decide (decide (landN ps (rowN w k) 0 = 1) ≠ q.sem (rowN w k)) = false) ∧ ∃ a b, δ = [.rep (progD ps), .rep q.da, .rep (.int (w : Int)), a, b]) ⟨fun k hk => absurd hk (Nat.not_lt_zero k), .any, .any, rfl⟩ ?_ ?_)
  · rintro i d δ1 e0 ⟨hk, a, b, rfl⟩
    rw [List.getElem?_map] at e0
    obtain ⟨n, e, rfl⟩ := Option.map_eq_some_iff.mp e0
    obtain ⟨hi, rfl⟩ := range_at e
    have z1 : (rowS (bitsB w i)).length = w := by rw [rowS_len, bitsB_len]
    have zc : (rowS (bitsB w i)).cps.toList = rowN w i := rowS_cp _
    refine ⟨_, tg_name, std_seq (std_asg (evd_call (eva_cons (evd_var rfl) (eva_cons (evd_var rfl) eva_nil)) ⟨w, i, by rw [Int.zero_add], by omega, rfl⟩) ?_)⟩
    refine std_if (b := !decide (decide (landN ps (rowN w i) 0 = 1) = q.sem (rowN w i))) (tvd_test (evd_op (Evd.is (evd_op (evd_call (eva_cons (evd_var rfl) (eva_cons (evd_var rfl) eva_nil)) ⟨ps, rowS (bitsB w i), rfl, s2, by omega, by rw [z1]; exact hn, rfl⟩) evd_int op2_eqI) (d1 := .bl (decide (landN ps (rowN w i) 0 = 1))) ?_) (evd_call (eva_cons (evd_var rfl) (eva_cons (evd_var rfl) eva_nil)) ⟨q, rowS (bitsB w i), rfl, by omega, by omega, by rw [z1]; exact oq.holes, by rw [rowS_cp]; rfl⟩) op2_neB)) (fun z => ?_) fun z => std_next ?_
    · rw [zc]; exact congrArg Da.bl (decide_eq_decide.mpr (by omega))
    · exact std_ret (evd_var rfl) (first_some hi hk (by rw [decide_not]; exact z)).symm
    · refine ⟨fun k hk1 => ?_, _, _, rfl⟩
      rcases Nat.lt_succ_iff_lt_or_eq.mp hk1 with hk1 | rfl
      · exact hk k hk1
      · rw [decide_not]; exact z
  · rintro δ ⟨hk, a, b, rfl⟩
    rw [List.length_map, List.length_range] at hk
    exact std_ret evd_non (first_none hk).symm
/-- how deep and/or are nested -/
def Req.nest : Req → Nat
  | .not a => a.nest
  | .and a b => max a.nest b.nest + 1
  | .or a b => max a.nest b.nest + 1
  | _ => 0
def sp_nested (K : PySem.W.Frag) (n : Nat) : Sp := PuSp K fun ds r => ∃ q : Req, ds = [q.da] ∧ q.dep < n ∧ r = .int (q.nest : Int)
def t_nested (K : PySem.W.Frag) (n : Nat) : TS := (tSeq (tAsg (tLc (iList K (tCall (sp_parts_of K) [] E0 (tCons (tVar 0) tNil))) (gName 2) tYes (tCall (sp_nested K n) [] E0 (tCons (tVar 2) tNil)) [2]) (gName 1))
  (tRet (tOp (rI0 fun i j => .int (i + j)) (tCB rInt1 (tCons (tOp rEq (tCB (rLenA K) (tCons (tVar 1) tNil)) (tC (.int 2))) tNil)) (tCKw (rMaxD K) (tCons (tVar 1) tNil) (tCons (tC (.int 0)) tNil)))))
def N_nested : List Str := ["request", "found", "part"]
end
end R
set_option maxHeartbeats 4123456
/-! QD: nested, steps_for, program_for, picks. -/
namespace R
open PySem L2
section
variable {K : PySem.W.Frag} {vs : List V} {H : Hp} {Q : VK} {E : XK} {δ : List En}
theorem pure_nested (A : AskC K) {n : Nat} (h : sp_nested K (n + 1) vs H Q E) : t_nested K n { nx := fun _ H' => Q .non H', rt := Q } (L2.start N_nested vs) H := by
  refine pu_body h (fun ds r ⟨_, e, _⟩ => by rw [e]; exact Nat.le_add_left 1 2) ?_
  rintro _ _ ⟨q, rfl, hd, rfl⟩
  refine std_seq (std_asg (EvO.frz (evo_lcN (js := [2]) (xs := q.parts) (φ := Req.da) (f := fun p => Da.int (p.nest : Int)) (src_list (evd_call (eva_cons (evd_var rfl) eva_nil) ⟨q, rfl, rfl⟩)) (fun j h => h) (by have := parts_len q; omega) fun i p ep => ⟨_, tg_name, evd_call (eva_cons (evd_var rfl) eva_nil) ⟨p, rfl, holds_parts hd p (List.mem_of_getElem? ep), rfl⟩⟩)) ?_)
  have e2 : (q.parts.map fun p => Da.int (p.nest : Int)) = (q.parts.map fun p => (p.nest : Int)).map Da.int := by rw [List.map_map]; rfl
  rw [e2]
  refine std_ret (evd_op (evd_cb (eva_cons (evd_op (evd_cb (eva_cons (evd_var rfl) eva_nil) opn_lenL) evd_int op2_eqI) eva_nil) opn_intB) (evd_maxD (evd_var rfl) evd_int) op2_I0) ?_
  cases q with
  | opn x => rfl
  | cls x => rfl
  | all => rfl
  | non => rfl
  | not a => show Da.int (0 + (a.nest : Int)) = .int (a.nest : Int); rw [Int.zero_add]
  | and a b => show Da.int (1 + max (a.nest : Int) (b.nest : Int)) = .int ((max a.nest b.nest + 1 : Nat) : Int); congr 1; omega
  | or a b => show Da.int (1 + max (a.nest : Int) (b.nest : Int)) = .int ((max a.nest b.nest + 1 : Nat) : Int); congr 1; omega
def stepsN : Req → Nat → Nat → Nat → Nat → List Stp
  | .opn h, s, g, b, _ => [.drop s h g b]
  | .cls h, s, g, b, _ => [.drop s h b g]
  | .all, s, g, _, _ => [.put s g]
  | .non, s, _, b, _ => [.put s b]
  | .not r, s, g, b, l => stepsN r s b g l
  | .and x y, s, g, b, l => stepsN x s (3 + l) b (l + 1) ++ stepsN y (3 + l) g b (l + 1)
  | .or x y, s, g, b, l => stepsN x s g (3 + l) (l + 1) ++ stepsN y (3 + l) g b (l + 1)
theorem steps_size : ∀ (q : Req) (s g b l : Nat), (stepsN q s g b l).length ≤ q.size
  | .opn h, _, _, _, _ => Nat.le_refl 1
  | .cls h, _, _, _, _ => Nat.le_refl 1
  | .all, _, _, _, _ => Nat.le_refl 1
  | .non, _, _, _, _ => Nat.le_refl 1
  | .not r, s, g, b, l => Nat.le_succ_of_le (steps_size r s b g l)
  | .and x y, s, g, b, l => by
    have h1 := steps_size x s (3 + l) b (l + 1)
    have h2 := steps_size y (3 + l) g b (l + 1)
    show (stepsN x s (3 + l) b (l + 1) ++ stepsN y (3 + l) g b (l + 1)).length ≤ x.size + y.size + 1
    rw [List.length_append]; omega
  | .or x y, s, g, b, l => by
    have h1 := steps_size x s g (3 + l) (l + 1)
    have h2 := steps_size y (3 + l) g b (l + 1)
    show (stepsN x s g (3 + l) (l + 1) ++ stepsN y (3 + l) g b (l + 1)).length ≤ x.size + y.size + 1
    rw [List.length_append]; omega
def sp_steps_for (K : PySem.W.Frag) (n : Nat) : Sp := PuSp K fun ds r => ∃ (q : Req) (s g b l : Nat), ds = [q.da, .tup [.int (s : Int), .int (g : Int), .int (b : Int)], .int (l : Int)] ∧ q.dep < n ∧ q.size ≤ 20000 ∧ r = progD (stepsN q s g b l)
def t_steps_for (K : PySem.W.Frag) (n : Nat) : TS := (tSeq (tAsg (tVar 1) (gTup K 3 (gCons (gName 7) (gCons (gName 8) (gCons (gName 9) gNil)))))
  (tSeq (tAsg (tOp (rIxT K) (tVar 0) (tC (.int 0))) (gName 3))
  (tSeq (tIfS (tTest (tOp (rIn K false) (tVar 3) (tC (.ref (He.ga K "LEAVES"))))) (tSeq (tAsg (tIf (tTest (tOp rEq (tVar 3) (tC (.str "open")))) (tTup (tCons (tVar 8) (tCons (tVar 9) tNil))) (tTup (tCons (tVar 9) (tCons (tVar 8) tNil)))) (gTup K 2 (gCons (gName 10) (gCons (gName 11) gNil))))
  (tRet (tLst (tCons (tTup (tCons (tC (.str "drop")) (tCons (tVar 7) (tCons (tOp (rIxT K) (tVar 0) (tC (.int 1))) (tCons (tVar 10) (tCons (tVar 11) tNil)))))) tNil)))) tNext)
  (tSeq (tIfS (tTest (tOp (rIn K false) (tVar 3) (tC (.ref (He.ga K "SIMPLE"))))) (tRet (tLst (tCons (tTup (tCons (tC (.str "put")) (tCons (tVar 7) (tCons (tIf (tTest (tOp rEq (tVar 3) (tC (.str "all")))) (tVar 8) (tVar 9)) tNil)))) tNil))) tNext)
  (tSeq (tIfS (tTest (tOp rEq (tVar 3) (tC (.str "not")))) (tRet (tCall (sp_steps_for K n) [] E0 (tCons (tOp (rIxT K) (tVar 0) (tC (.int 1))) (tCons (tTup (tCons (tVar 7) (tCons (tVar 9) (tCons (tVar 8) tNil)))) (tCons (tVar 2) tNil))))) tNext)
  (tSeq (tAsg (tOp (rI0 fun i j => .int (i + j)) (tOp (rI0 fun i j => .int (i + j)) (tC (.int 2)) (tC (.int 1))) (tVar 2)) (gName 4))
  (tSeq (tAsg (tIf (tTest (tOp rEq (tVar 3) (tC (.str "and")))) (tTup (tCons (tVar 4) (tCons (tVar 9) tNil))) (tTup (tCons (tVar 8) (tCons (tVar 4) tNil)))) (gName 5))
  (tSeq (tAsg (tCall (sp_steps_for K n) [] E0 (tCons (tOp (rIxT K) (tVar 0) (tC (.int 1))) (tCons (tTup (tCons (tVar 7) (tCons (tOp (rIxT K) (tVar 5) (tC (.int 0))) (tCons (tOp (rIxT K) (tVar 5) (tC (.int 1))) tNil)))) (tCons (tOp (rI0 fun i j => .int (i + j)) (tVar 2) (tC (.int 1))) tNil)))) (gName 6))
  (tRet (tOp rCat (tVar 6) (tCall (sp_steps_for K n) [] E0 (tCons (tOp (rIxT K) (tVar 0) (tC (.int 2))) (tCons (tTup (tCons (tVar 4) (tCons (tVar 8) (tCons (tVar 9) tNil)))) (tCons (tOp (rI0 fun i j => .int (i + j)) (tVar 2) (tC (.int 1))) tNil))))))))))))))
def N_steps_for : List Str := ["request", "places", "level", "word", "between", "ends", "first", "source", "good", "bad", "fallen", "held"]
theorem tvd_wordEq {te : TE} (a b : Str) {c : Bool} (h : Evd K te δ (.str a)) (e : decide (a = b) = c) : Tvd K (tTest (tOp rEq te (tC (.str b)))) δ c := tvd_test (evd_op h evd_str (txt_eq _ _ e))
theorem evd_ixT {te : TE} {ds : List Da} {d : Da} (j : Nat) (h : Evd K te δ (.tup ds)) (e : ds[j]? = some d) : Evd K (tOp (rIxT K) te (tC (.int (j : Int)))) δ d := evd_op h evd_int (op2_ixT (atI_nat e))
theorem evd_three {l : Nat} {te : TE} (h : Evd K te δ (.int (l : Int))) : Evd K (tOp (rI0 fun i j => .int (i + j)) (tOp (rI0 fun i j => .int (i + j)) (tC (.int 2)) (tC (.int 1))) te) δ (.int ((3 + l : Nat) : Int)) := by
  have q := evd_op (K := K) (evd_op (evd_int (i := 2) (δ := δ)) (evd_int (i := 1)) (op2_I0 (g := fun i j => i + j))) h (op2_I0 (g := fun i j => i + j))
  exact q.is (congrArg Da.int (by show (2 : Int) + 1 + (l : Int) = _; omega))
theorem evd_succ {l : Nat} {te : TE} (h : Evd K te δ (.int (l : Int))) : Evd K (tOp (rI0 fun i j => .int (i + j)) te (tC (.int 1))) δ (.int ((l + 1 : Nat) : Int)) := evd_op h (evd_int (i := 1)) (op2_I0 (g := fun i j => i + j))
theorem pure_steps_for (A : AskC K) {n : Nat} (h : sp_steps_for K (n + 1) vs H Q E) : t_steps_for K n { nx := fun _ H' => Q .non H', rt := Q } (L2.start N_steps_for vs) H := by
  refine pu_body h (fun ds r ⟨_, _, _, _, _, e, _⟩ => by rw [e]; exact Nat.le_add_left 3 9) ?_
  rintro _ _ ⟨q, s, g, b, l, rfl, hd, hs, rfl⟩
  refine std_seq (std_asgT (evd_var rfl) (tg_tup (tgs_cons tg_name (tgs_cons tg_name (tgs_cons tg_name tgs_nil))) rfl) ?_)
  refine std_seq (std_asg (evd_word rfl) ?_)
  refine std_seq (std_if (op2_leaf A q (evd_var rfl)) (fun e => ?_) fun e => std_next ?_)
  · cases q with
    | opn x =>
      refine std_seq (std_asgT (d := .tup [.int (g : Int), .int (b : Int)]) (evd_if (b := true) (tvd_wordEq "open" _ (evd_var rfl) (by decide +kernel)) (fun _ => evd_tup (eva_cons (evd_var rfl) (eva_cons (evd_var rfl) eva_nil)) (Nat.le_add_left 2 99998)) fun e => nomatch e) tg_two ?_)
      exact std_ret (evo_lst (eva_cons (evd_tup (eva_cons evd_str (eva_cons (evd_var rfl) (eva_cons (evd_op (evd_var rfl) evd_int (op2_ixT (d := .int (x : Int)) (atI_nat (j := 1) rfl))) (eva_cons (evd_var rfl) (eva_cons (evd_var rfl) eva_nil))))) (Nat.le_add_left 5 99995)) eva_nil) (Nat.le_add_left 1 99999)).frz rfl
    | cls x =>
      refine std_seq (std_asgT (d := .tup [.int (b : Int), .int (g : Int)]) (evd_if (b := false) (tvd_wordEq "closed" _ (evd_var rfl) (by decide +kernel)) (fun e => nomatch e) fun _ => evd_tup (eva_cons (evd_var rfl) (eva_cons (evd_var rfl) eva_nil)) (Nat.le_add_left 2 99998)) tg_two ?_)
      exact std_ret (evo_lst (eva_cons (evd_tup (eva_cons evd_str (eva_cons (evd_var rfl) (eva_cons (evd_op (evd_var rfl) evd_int (op2_ixT (d := .int (x : Int)) (atI_nat (j := 1) rfl))) (eva_cons (evd_var rfl) (eva_cons (evd_var rfl) eva_nil))))) (Nat.le_add_left 5 99995)) eva_nil) (Nat.le_add_left 1 99999)).frz rfl
    | all => cases e
    | non => cases e
    | not a => cases e
    | and a b => cases e
    | or a b => cases e
  refine std_seq (std_if (op2_simp A q (evd_var rfl)) (fun e2 => ?_) fun e2 => std_next ?_)
  · cases q with
    | all => exact std_ret (evo_lst (eva_cons (evd_tup (eva_cons evd_str (eva_cons (evd_var rfl) (eva_cons (evd_if (b := true) (tvd_wordEq "all" _ (evd_var rfl) (by decide +kernel)) (fun _ => evd_var rfl) fun e => nomatch e) eva_nil))) (Nat.le_add_left 3 99997)) eva_nil) (Nat.le_add_left 1 99999)).frz rfl
    | non => exact std_ret (evo_lst (eva_cons (evd_tup (eva_cons evd_str (eva_cons (evd_var rfl) (eva_cons (evd_if (b := false) (tvd_wordEq "none" _ (evd_var rfl) (by decide +kernel)) (fun e => nomatch e) fun _ => evd_var rfl) eva_nil))) (Nat.le_add_left 3 99997)) eva_nil) (Nat.le_add_left 1 99999)).frz rfl
    | opn x => cases e2
    | cls x => cases e2
    | not a => cases e2
    | and a b => cases e2
    | or a b => cases e2
  cases q with
  | not a =>
    have hd : a.dep + 1 < n + 1 := hd
    have hs : a.size + 1 ≤ 20000 := hs
    exact std_seq (std_if (b := true) (tvd_wordEq "not" _ (evd_var rfl) (by decide +kernel)) (fun _ => std_ret (evd_call (eva_cons (evd_op (evd_var rfl) evd_int (op2_ixT (d := a.da) (atI_nat (j := 1) rfl))) (eva_cons (evd_tup (eva_cons (evd_var rfl) (eva_cons (evd_var rfl) (eva_cons (evd_var rfl) eva_nil))) (Nat.le_add_left 3 99997)) (eva_cons (evd_var rfl) eva_nil))) ⟨a, s, b, g, l, rfl, by omega, by omega, rfl⟩) rfl) fun e => nomatch e)
  | and x y =>
    have hd : max x.dep y.dep + 1 < n + 1 := hd
    have hs : x.size + y.size + 1 ≤ 20000 := hs
    have l1 := steps_size x s (3 + l) b (l + 1)
    have l2 := steps_size y (3 + l) g b (l + 1)
    refine std_seq (std_if (b := false) (tvd_wordEq "and" _ (evd_var rfl) (by decide +kernel)) (fun e => nomatch e) fun _ => std_next ?_)
    refine std_seq (std_asg (evd_three (evd_var rfl)) (std_seq ?_))
    refine std_asg (d := .tup [.int ((3 + l : Nat) : Int), .int (b : Int)]) (evd_if (b := true) (tvd_wordEq "and" _ (evd_var rfl) (by decide +kernel)) (fun _ => evd_tup (eva_cons (evd_var rfl) (eva_cons (evd_var rfl) eva_nil)) (Nat.le_add_left 2 99998)) fun e => nomatch e) (std_seq ?_)
    refine std_asg (evd_call (eva_cons (evd_op (evd_var rfl) evd_int (op2_ixT (d := x.da) (atI_nat (j := 1) rfl))) (eva_cons (evd_tup (eva_cons (evd_var rfl) (eva_cons (evd_op (evd_var rfl) evd_int (op2_ixT (d := .int ((3 + l : Nat) : Int)) (atI_nat (j := 0) rfl))) (eva_cons (evd_op (evd_var rfl) evd_int (op2_ixT (d := .int (b : Int)) (atI_nat (j := 1) rfl))) eva_nil))) (Nat.le_add_left 3 99997)) (eva_cons (evd_succ (evd_var rfl)) eva_nil))) ⟨x, s, 3 + l, b, l + 1, rfl, by omega, by omega, rfl⟩) ?_
    refine std_ret (evo_op (evd_var rfl) (evd_call (eva_cons (evd_op (evd_var rfl) evd_int (op2_ixT (d := y.da) (atI_nat (j := 2) rfl))) (eva_cons (evd_tup (eva_cons (evd_var rfl) (eva_cons (evd_var rfl) (eva_cons (evd_var rfl) eva_nil))) (Nat.le_add_left 3 99997)) (eva_cons (evd_succ (evd_var rfl)) eva_nil))) ⟨y, 3 + l, g, b, l + 1, rfl, by omega, by omega, rfl⟩) (op2o_cat (by rw [List.length_map, List.length_map]; omega))).frz ?_
    show _ = Da.lst ((stepsN x s (3 + l) b (l + 1) ++ stepsN y (3 + l) g b (l + 1)).map Stp.da)
    rw [List.map_append]
  | or x y =>
    have hd : max x.dep y.dep + 1 < n + 1 := hd
    have hs : x.size + y.size + 1 ≤ 20000 := hs
    have l1 := steps_size x s g (3 + l) (l + 1)
    have l2 := steps_size y (3 + l) g b (l + 1)
    refine std_seq (std_if (b := false) (tvd_wordEq "or" _ (evd_var rfl) (by decide +kernel)) (fun e => nomatch e) fun _ => std_next ?_)
    refine std_seq (std_asg (evd_three (evd_var rfl)) (std_seq ?_))
    refine std_asg (d := .tup [.int (g : Int), .int ((3 + l : Nat) : Int)]) (evd_if (b := false) (tvd_wordEq "or" _ (evd_var rfl) (by decide +kernel)) (fun e => nomatch e) fun _ => evd_tup (eva_cons (evd_var rfl) (eva_cons (evd_var rfl) eva_nil)) (Nat.le_add_left 2 99998)) (std_seq ?_)
    refine std_asg (evd_call (eva_cons (evd_op (evd_var rfl) evd_int (op2_ixT (d := x.da) (atI_nat (j := 1) rfl))) (eva_cons (evd_tup (eva_cons (evd_var rfl) (eva_cons (evd_op (evd_var rfl) evd_int (op2_ixT (d := .int (g : Int)) (atI_nat (j := 0) rfl))) (eva_cons (evd_op (evd_var rfl) evd_int (op2_ixT (d := .int ((3 + l : Nat) : Int)) (atI_nat (j := 1) rfl))) eva_nil))) (Nat.le_add_left 3 99997)) (eva_cons (evd_succ (evd_var rfl)) eva_nil))) ⟨x, s, g, 3 + l, l + 1, rfl, by omega, by omega, rfl⟩) ?_
    refine std_ret (evo_op (evd_var rfl) (evd_call (eva_cons (evd_op (evd_var rfl) evd_int (op2_ixT (d := y.da) (atI_nat (j := 2) rfl))) (eva_cons (evd_tup (eva_cons (evd_var rfl) (eva_cons (evd_var rfl) (eva_cons (evd_var rfl) eva_nil))) (Nat.le_add_left 3 99997)) (eva_cons (evd_succ (evd_var rfl)) eva_nil))) ⟨y, 3 + l, g, b, l + 1, rfl, by omega, by omega, rfl⟩) (op2o_cat (by rw [List.length_map, List.length_map]; omega))).frz ?_
    show _ = Da.lst ((stepsN x s g (3 + l) (l + 1) ++ stepsN y (3 + l) g b (l + 1)).map Stp.da)
    rw [List.map_append]
  | opn x => cases e
  | cls x => cases e
  | all => cases e2
  | non => cases e2
/-! what the steps do -/
theorem land_app (ps qs : List Stp) (row : List Nat) (t : Nat) : landN (ps ++ qs) row t = landN qs row (landN ps row t) := by unfold landN; rw [List.foldl_append]
theorem steps_land (row : List Nat) : ∀ (q : Req) (s g b l : Nat), s < 3 + l → g < 3 + l → b < 3 + l → g ≠ s → b ≠ s →
    landN (stepsN q s g b l) row s = (if q.sem row then g else b) ∧ ∀ t, t < 3 + l → t ≠ s → landN (stepsN q s g b l) row t = t
  | .opn h, s, g, b, l, h1, h2, h3, h4, h5 => by
    refine ⟨?_, fun t ht hts => ?_⟩
    · show (if s = s then _ else _) = _
      rw [if_pos rfl]; rfl
    · show (if s = t then _ else _) = _
      rw [if_neg (Ne.symm hts)]
  | .cls h, s, g, b, l, h1, h2, h3, h4, h5 => by
    refine ⟨?_, fun t ht hts => ?_⟩
    · show (if s = s then (if (row[h]? == some 118) = true then b else g) else s) = (if (!(row[h]? == some 118)) = true then g else b)
      rw [if_pos rfl]
      cases row[h]? == some 118 <;> rfl
    · show (if s = t then _ else _) = _
      rw [if_neg (Ne.symm hts)]
  | .all, s, g, b, l, h1, h2, h3, h4, h5 => by
    refine ⟨?_, fun t ht hts => ?_⟩
    · show (if s = s then _ else _) = _
      rw [if_pos rfl]; rfl
    · show (if s = t then _ else _) = _
      rw [if_neg (Ne.symm hts)]
  | .non, s, g, b, l, h1, h2, h3, h4, h5 => by
    refine ⟨?_, fun t ht hts => ?_⟩
    · show (if s = s then _ else _) = _
      rw [if_pos rfl]; rfl
    · show (if s = t then _ else _) = _
      rw [if_neg (Ne.symm hts)]
  | .not r, s, g, b, l, h1, h2, h3, h4, h5 => by
    obtain ⟨a1, a2⟩ := steps_land row r s b g l h1 h3 h2 h5 h4
    refine ⟨?_, a2⟩
    show landN (stepsN r s b g l) row s = (if (!r.sem row) = true then g else b)
    rw [a1]
    cases r.sem row <;> rfl
  | .and x y, s, g, b, l, h1, h2, h3, h4, h5 => by
    obtain ⟨a1, a2⟩ := steps_land row x s (3 + l) b (l + 1) (by omega) (by omega) (by omega) (by omega) h5
    obtain ⟨b1, b2⟩ := steps_land row y (3 + l) g b (l + 1) (by omega) (by omega) (by omega) (by omega) (by omega)
    refine ⟨?_, fun t ht hts => ?_⟩
    · show landN (stepsN x s (3 + l) b (l + 1) ++ stepsN y (3 + l) g b (l + 1)) row s = (if (x.sem row && y.sem row) = true then g else b)
      rw [land_app, a1]
      cases x.sem row
      · exact b2 b (by omega) (by omega)
      · exact b1
    · show landN (stepsN x s (3 + l) b (l + 1) ++ stepsN y (3 + l) g b (l + 1)) row t = t
      rw [land_app, a2 t (by omega) hts, b2 t (by omega) (by omega)]
  | .or x y, s, g, b, l, h1, h2, h3, h4, h5 => by
    obtain ⟨a1, a2⟩ := steps_land row x s g (3 + l) (l + 1) (by omega) (by omega) (by omega) h4 (by omega)
    obtain ⟨b1, b2⟩ := steps_land row y (3 + l) g b (l + 1) (by omega) (by omega) (by omega) (by omega) (by omega)
    refine ⟨?_, fun t ht hts => ?_⟩
    · show landN (stepsN x s g (3 + l) (l + 1) ++ stepsN y (3 + l) g b (l + 1)) row s = (if (x.sem row || y.sem row) = true then g else b)
      rw [land_app, a1]
      cases x.sem row
      · exact b1
      · exact b2 g (by omega) (by omega)
    · show landN (stepsN x s g (3 + l) (l + 1) ++ stepsN y (3 + l) g b (l + 1)) row t = t
      rw [land_app, a2 t (by omega) hts, b2 t (by omega) (by omega)]
theorem steps_need : ∀ (q : Req) (s g b l : Nat), needN (stepsN q s g b l) = q.holes
  | .opn h, _, _, _, _ => rfl
  | .cls h, _, _, _, _ => rfl
  | .all, _, _, _, _ => rfl
  | .non, _, _, _, _ => rfl
  | .not r, s, g, b, l => steps_need r s b g l
  | .and x y, s, g, b, l => by
    show List.flatMap _ (_ ++ _) = _ ++ _
    rw [List.flatMap_append]
    show needN (stepsN x s (3 + l) b (l + 1)) ++ needN (stepsN y (3 + l) g b (l + 1)) = _
    rw [steps_need, steps_need]
  | .or x y, s, g, b, l => by
    show List.flatMap _ (_ ++ _) = _ ++ _
    rw [List.flatMap_append]
    show needN (stepsN x s g (3 + l) (l + 1)) ++ needN (stepsN y (3 + l) g b (l + 1)) = _
    rw [steps_need, steps_need]
theorem steps_ok : ∀ (q : Req) (s g b l : Nat), s < 8 → g < 8 → b < 8 → l + q.nest ≤ 5 → (∀ h ∈ q.holes, h < 24) → ∀ p ∈ stepsN q s g b l, p.Ok
  | .opn h, _, _, _, _, h1, h2, h3, h4, h5 => fun p hp => by rw [List.mem_singleton.mp hp]; exact ⟨h1, h5 h List.mem_cons_self, h2, h3⟩
  | .cls h, _, _, _, _, h1, h2, h3, h4, h5 => fun p hp => by rw [List.mem_singleton.mp hp]; exact ⟨h1, h5 h List.mem_cons_self, h3, h2⟩
  | .all, _, _, _, _, h1, h2, h3, h4, h5 => fun p hp => by rw [List.mem_singleton.mp hp]; exact ⟨h1, h2⟩
  | .non, _, _, _, _, h1, h2, h3, h4, h5 => fun p hp => by rw [List.mem_singleton.mp hp]; exact ⟨h1, h3⟩
  | .not r, s, g, b, l, h1, h2, h3, h4, h5 => steps_ok r s b g l h1 h3 h2 h4 h5
  | .and x y, s, g, b, l, h1, h2, h3, h4, h5 => fun p hp => by
    have h4 : l + (max x.nest y.nest + 1) ≤ 5 := h4
    rcases List.mem_append.mp hp with hp | hp
    · exact steps_ok x s (3 + l) b (l + 1) h1 (by omega) h3 (by omega) (fun h m => h5 h (List.mem_append_left _ m)) p hp
    · exact steps_ok y (3 + l) g b (l + 1) (by omega) h2 h3 (by omega) (fun h m => h5 h (List.mem_append_right _ m)) p hp
  | .or x y, s, g, b, l, h1, h2, h3, h4, h5 => fun p hp => by
    have h4 : l + (max x.nest y.nest + 1) ≤ 5 := h4
    rcases List.mem_append.mp hp with hp | hp
    · exact steps_ok x s g (3 + l) (l + 1) h1 h2 (by omega) (by omega) (fun h m => h5 h (List.mem_append_left _ m)) p hp
    · exact steps_ok y (3 + l) g b (l + 1) (by omega) h2 h3 (by omega) (fun h m => h5 h (List.mem_append_right _ m)) p hp
def sp_program_for (K : PySem.W.Frag) : Sp := PuSp K fun ds r => ∃ q : Req, ds = [q.da] ∧ q.dep ≤ 12 ∧ (∀ h ∈ q.holes, h < 24) ∧ q.size ≤ 60 ∧ q.nest ≤ 5 ∧ r = progD (stepsN q 0 1 2 0)
def t_program_for (K : PySem.W.Frag) : TS := (tSeq (tDrop (tCall (sp_need_request K) [] E0 (tCons (tVar 0) tNil)))
  (tSeq (tAsg (tCall (sp_nested K 14) [] E0 (tCons (tVar 0) tNil)) (gName 1))
  (tSeq (tIfS (tTest (tOp (rI0 fun i j => .bl (decide (j < i))) (tVar 1) (tC (.int 5)))) tNever tNext)
  (tRet (tCall (sp_steps_for K 14) [] E0 (tCons (tVar 0) (tCons (tTup (tCons (tC (.int 0)) (tCons (tC (.int 1)) (tCons (tC (.int 2)) tNil)))) (tCons (tC (.int 0)) tNil))))))))
def N_program_for : List Str := ["request", "deep"]
theorem pure_program_for (h : sp_program_for K vs H Q E) : t_program_for K { nx := fun _ H' => Q .non H', rt := Q } (L2.start N_program_for vs) H := by
  refine pu_body h (fun ds r ⟨_, e, _⟩ => by rw [e]; exact Nat.le_add_left 1 1) ?_
  rintro _ _ ⟨q, rfl, hd, hh, hs, hn, rfl⟩
  refine std_seq (std_drop (evd_call (eva_cons (evd_var rfl) eva_nil) ⟨q, rfl, hd, hh, hs, rfl⟩) ?_)
  refine std_seq (std_asg (evd_call (eva_cons (evd_var rfl) eva_nil) ⟨q, rfl, by omega, rfl⟩) ?_)
  refine std_seq (std_if (b := false) (Tvd.is (tvd_test (evd_op (evd_var rfl) evd_int op2_B0)) (decide_eq_false (by omega))) (fun e => nomatch e) fun _ => std_next ?_)
  exact std_ret (evd_call (eva_cons (evd_var rfl) (eva_cons (evd_tup (eva_cons evd_int (eva_cons evd_int (eva_cons evd_int eva_nil))) (Nat.le_add_left 3 99997)) (eva_cons evd_int eva_nil))) ⟨q, 0, 1, 2, 0, rfl, by omega, by omega, rfl⟩) rfl
def semC (q : Req) (c : Str × Str) : Bool := q.sem c.2.cps.toList
def sp_picks (K : PySem.W.Frag) : Sp := PuSp K fun ds r => ∃ (q : Req) (cs : List (Str × Str)) (w : Nat), ds = [q.da, .pck cs] ∧ PackOk cs ∧ cs ≠ [] ∧ (∀ c ∈ cs, c.2.length = w) ∧ ReqOk w q ∧ w ≤ 24 ∧ r = .pck (cs.filter (semC q))
def t_picks (K : PySem.W.Frag) : TS := (tSeq (tDrop (tCall (sp_need_request K) [] E0 (tCons (tVar 0) tNil)))
  (tSeq (tDrop (tCall (sp_need_pack K) [] E0 (tCons (tVar 1) tNil)))
  (tSeq (tIfS (tTest (tOp (rI0 fun i j => .bl (decide (j < i))) (tLenOwn K (He.ga K "Pack") (sp_Pack_Dlen K) (tVar 1)) (tC (.int 0)))) (tDrop (tCall (sp_need_holes K) [] E0 (tCons (tCall (sp_holes_in K 14) [] E0 (tCons (tVar 0) tNil)) (tCons (tMeth (He.ga K "Pack") "width" (sp_Pack_width K) [] E0 (tVar 1) tNil) tNil)))) tNext)
  (tRet (tMake (He.ga K "Pack") (sp_Pack_Dinit K) [] E0 (tCons (tLc (iList K (tMeth (He.ga K "Pack") "cards" (sp_Pack_cards K) [] E0 (tVar 1) tNil)) (gName 2) (tB (tCall (sp_holds K 14) [] E0 (tCons (tVar 0) (tCons (tOp (rIxT K) (tVar 2) (tC (.int 1))) tNil)))) (tVar 2) [2]) tNil))))))
def N_picks : List Str := ["request", "pack", "card"]
theorem pure_picks (h : sp_picks K vs H Q E) : t_picks K { nx := fun _ H' => Q .non H', rt := Q } (L2.start N_picks vs) H := by
  refine pu_body h (fun ds r ⟨_, _, _, e, _⟩ => by rw [e]; exact Nat.le_add_left 2 1) ?_
  rintro _ _ ⟨q, cs, w, rfl, ok, ne, hw, oq, h24, rfl⟩
  have hd := oq.dep
  have hs := oq.size
  have hl := holes_size q
  have hlen := ok.len
  have hpos : 0 < cs.length := List.length_pos_iff.mpr ne
  refine std_seq (std_drop (evd_call (eva_cons (evd_var rfl) eva_nil) ⟨q, rfl, oq.dep, fun x hx => by have := oq.holes x hx; omega, oq.size, rfl⟩) ?_)
  refine std_seq (std_drop (evd_call (eva_cons (evd_var rfl) eva_nil) ⟨cs, rfl, rfl⟩) ?_)
  refine std_seq (std_if (b := true) (Tvd.is (tvd_test (evd_op (evd_lenOwn (evd_var rfl) ⟨_, rfl, rfl⟩ (by omega)) evd_int op2_B0)) (decide_eq_true (by omega))) (fun _ => ?_) fun e => nomatch e)
  have wid := widthOf_eq hw ne
  refine std_drop (evd_call (eva_cons (evd_call (eva_cons (evd_var rfl) eva_nil) ⟨q, rfl, by omega, by omega, rfl⟩) (eva_cons (Evd.is (evd_meth (evd_var rfl) eva_nil (by decide) ⟨cs, rfl, ok, rfl⟩) (congrArg Da.int wid)) eva_nil)) ⟨q.holes, w, rfl, by omega, oq.holes, rfl⟩) ?_
  refine std_ret (evd_make (cs := cs.filter (semC q)) (EvO.frz (evo_lcM (js := [2]) (xs := cs) (φ := cardD) (keep := semC q) (f := cardD) (src_list (evd_meth (evd_var rfl) eva_nil (by decide) ⟨cs, rfl, rfl⟩)) (fun j h => h) (by omega) fun i c ec => ⟨_, tg_name, ?_, fun _ => evd_var rfl⟩)) (ok.filter _)) rfl
  have hc := hw c (List.mem_of_getElem? ec)
  exact tvd_B (evd_call (eva_cons (evd_var rfl) (eva_cons (evd_op (evd_var rfl) evd_int (op2_ixT (d := .str c.2) (atI_nat (j := 1) rfl))) eva_nil)) ⟨q, c.2, rfl, by omega, by omega, by rw [hc]; exact oq.holes, rfl⟩)
end
end R
set_option maxHeartbeats 4123456
/-! QE: the law's own evaluation. -/
namespace R
open PySem L2
section
variable {K : PySem.W.Frag} {vs : List V} {H : Hp} {Q : VK} {E : XK} {δ : List En}
theorem da_tup (p : Req) : ∃ ds, p.da = .tup ds := by cases p <;> exact ⟨_, rfl⟩
theorem tl_at {q : Req} {i : Nat} {d : Da} (h : q.tl[i]? = some d) : (∃ n : Int, d = .int n) ∨ ∃ p : Req, d = p.da := by
  cases q with
  | opn x => match i, h with
    | 0, h => cases h; exact .inl ⟨_, rfl⟩
    | i + 1, h => cases h
  | cls x => match i, h with
    | 0, h => cases h; exact .inl ⟨_, rfl⟩
    | i + 1, h => cases h
  | all => cases h
  | non => cases h
  | not a => match i, h with
    | 0, h => cases h; exact .inr ⟨_, rfl⟩
    | i + 1, h => cases h
  | and a b => match i, h with
    | 0, h => cases h; exact .inr ⟨_, rfl⟩
    | 1, h => cases h; exact .inr ⟨_, rfl⟩
    | i + 2, h => cases h
  | or a b => match i, h with
    | 0, h => cases h; exact .inr ⟨_, rfl⟩
    | 1, h => cases h; exact .inr ⟨_, rfl⟩
    | i + 2, h => cases h
def isTup : Da → Bool
  | .tup _ => true
  | _ => false
theorem isTup_da (p : Req) : isTup p.da = true := by cases p <;> rfl
theorem tl_filter (q : Req) : (q.tl.filter isTup).map (fun d => d) = q.parts.map Req.da := by
  rw [List.map_id']
  cases q with
  | opn x => rfl
  | cls x => rfl
  | all => rfl
  | non => rfl
  | not a => show List.filter isTup [a.da] = [a.da]; rw [List.filter_cons, if_pos (isTup_da a)]; rfl
  | and a b => show List.filter isTup [a.da, b.da] = [a.da, b.da]; rw [List.filter_cons, if_pos (isTup_da a), List.filter_cons, if_pos (isTup_da b)]; rfl
  | or a b => show List.filter isTup [a.da, b.da] = [a.da, b.da]; rw [List.filter_cons, if_pos (isTup_da a), List.filter_cons, if_pos (isTup_da b)]; rfl
theorem tl_len (q : Req) : q.tl.length ≤ 2 := by cases q <;> exact Nat.le_of_ble_eq_true rfl
theorem evd_tail {te : TE} {q : Req} (h : Evd K te δ q.da) : Evd K (tSl (rSlT K) te (tPart (tC (.int 1))) tNoPart) δ (.tup q.tl) := by
  rw [Req.da_eq] at h
  have := evd_slT (K := K) (lo := some ((1 : Nat) : Int)) (hi := none) h (ovd_some evd_int) ovd_none not_whole
  have e3 : cutD (.str q.word :: q.tl) (some ((1 : Nat) : Int)) none = q.tl := cut_one
  rw [e3] at this
  exact this
def sp_law_parts (K : PySem.W.Frag) : Sp := PuSp K fun ds r => ∃ q : Req, ds = [q.da] ∧ r = .lst (q.parts.map Req.da)
def t_law_parts (K : PySem.W.Frag) : TS := (tRet (tLc (iTup K (tSl (rSlT K) (tVar 0) (tPart (tC (.int 1))) tNoPart)) (gName 1) (tB (tCB (rIsi K) (tCons (tVar 1) (tCons (tC (.ty "tuple")) tNil)))) (tVar 1) [1]))
def N_law_parts : List Str := ["request", "part"]
theorem pure_law_parts (h : sp_law_parts K vs H Q E) : t_law_parts K { nx := fun _ H' => Q .non H', rt := Q } (L2.start N_law_parts vs) H := by
  refine pu_body h (fun ds r ⟨_, e, _⟩ => by rw [e]; exact Nat.le_add_left 1 1) ?_
  rintro _ _ ⟨q, rfl, rfl⟩
  refine std_ret (Evd.is (EvO.frz (evo_lc (js := [1]) (keep := isTup) (f := fun d => d) (src_tup (evd_tail (q := q) (evd_var rfl))) (fun j h => h) (by have := tl_len q; omega) fun i d e => ⟨_, tg_name, tvd_B ?_, fun _ => evd_var rfl⟩)) (congrArg Da.lst (tl_filter q))) rfl
  rcases tl_at e with ⟨n, rfl⟩ | ⟨p, rfl⟩
  · exact evd_isiN false "int" (evd_var rfl)
  · rw [Req.da_eq p]; exact evd_isiN true "tuple" (evd_var rfl)
theorem word_leaf2 : ∀ q : Req, (decide (q.word = ("open" : Str)) || decide (q.word = ("closed" : Str))) = q.leaf
  | .opn _ => (by decide +kernel : (decide (("open" : Str) = "open") || decide (("open" : Str) = "closed")) = true)
  | .cls _ => (by decide +kernel : (decide (("closed" : Str) = "open") || decide (("closed" : Str) = "closed")) = true)
  | .all => (by decide +kernel : (decide (("all" : Str) = "open") || decide (("all" : Str) = "closed")) = false)
  | .non => (by decide +kernel : (decide (("none" : Str) = "open") || decide (("none" : Str) = "closed")) = false)
  | .not _ => (by decide +kernel : (decide (("not" : Str) = "open") || decide (("not" : Str) = "closed")) = false)
  | .and _ _ => (by decide +kernel : (decide (("and" : Str) = "open") || decide (("and" : Str) = "closed")) = false)
  | .or _ _ => (by decide +kernel : (decide (("or" : Str) = "open") || decide (("or" : Str) = "closed")) = false)
theorem word_simp2 : ∀ q : Req, (decide (q.word = ("all" : Str)) || decide (q.word = ("none" : Str))) = q.simp
  | .opn _ => (by decide +kernel : (decide (("open" : Str) = "all") || decide (("open" : Str) = "none")) = false)
  | .cls _ => (by decide +kernel : (decide (("closed" : Str) = "all") || decide (("closed" : Str) = "none")) = false)
  | .all => (by decide +kernel : (decide (("all" : Str) = "all") || decide (("all" : Str) = "none")) = true)
  | .non => (by decide +kernel : (decide (("none" : Str) = "all") || decide (("none" : Str) = "none")) = true)
  | .not _ => (by decide +kernel : (decide (("not" : Str) = "all") || decide (("not" : Str) = "none")) = false)
  | .and _ _ => (by decide +kernel : (decide (("and" : Str) = "all") || decide (("and" : Str) = "none")) = false)
  | .or _ _ => (by decide +kernel : (decide (("or" : Str) = "all") || decide (("or" : Str) = "none")) = false)
theorem tvd_leafW {te : TE} (q : Req) (h : Evd K te δ (.str q.word)) : Tvd K (tOr (tTest (tOp rEq te (tC (.str "open")))) (tTest (tOp rEq te (tC (.str "closed"))))) δ q.leaf :=
  (tvd_or (tvd_test (evd_op h evd_str op2_eqS)) fun _ => tvd_test (evd_op h evd_str op2_eqS)).is (word_leaf2 q)
theorem tvd_simpW {te : TE} (q : Req) (h : Evd K te δ (.str q.word)) : Tvd K (tOr (tTest (tOp rEq te (tC (.str "all")))) (tTest (tOp rEq te (tC (.str "none"))))) δ q.simp :=
  (tvd_or (tvd_test (evd_op h evd_str op2_eqS)) fun _ => tvd_test (evd_op h evd_str op2_eqS)).is (word_simp2 q)
theorem evd_vAt {tr ti : TE} {z : Str} {x : Nat} (hr : Evd K tr δ (.str z)) (hi : Evd K ti δ (.int (x : Int))) (hz : z.length ≤ 24) (hx : x < z.length) : Evd K (tOp rEq (tOp rIxS tr ti) (tC (.str "v"))) δ (.bl (z.cps.toList[x]? == some 118)) := by
  have hl : x < z.cps.toList.length := by rw [← str_len]; exact hx
  have q := evd_op (K := K) (evd_op hr hi (op2_ixS (by omega) (atI_nat (List.getElem?_eq_getElem hl)))) (evd_str (x := ⟨#[118]⟩)) op2_eqS
  refine q.is ?_
  rw [sign_eq, List.getElem?_eq_getElem hl]; rfl
def sp_law_fits (K : PySem.W.Frag) (n : Nat) : Sp := PuSp K fun ds r => ∃ (q : Req) (z : Str), ds = [q.da, .str z] ∧ q.dep < n ∧ z.length ≤ 24 ∧ q.inR z.length ∧ r = .bl (q.sem z.cps.toList)
def t_law_fits (K : PySem.W.Frag) (n : Nat) : TS := (tSeq (tAsg (tOp (rIxT K) (tVar 0) (tC (.int 0))) (gName 2))
  (tSeq (tIfS (tOr (tTest (tOp rEq (tVar 2) (tC (.str "open")))) (tTest (tOp rEq (tVar 2) (tC (.str "closed"))))) (tRet (tOp rEq (tOp rEq (tOp rIxS (tVar 1) (tOp (rIxT K) (tVar 0) (tC (.int 1)))) (tC (.str "v"))) (tOp rEq (tVar 2) (tC (.str "open"))))) tNext)
  (tSeq (tIfS (tOr (tTest (tOp rEq (tVar 2) (tC (.str "all")))) (tTest (tOp rEq (tVar 2) (tC (.str "none"))))) (tRet (tOp rEq (tVar 2) (tC (.str "all")))) tNext)
  (tSeq (tAsg (tLc (iList K (tCall (sp_law_parts K) [] E0 (tCons (tVar 0) tNil))) (gName 4) tYes (tCall (sp_law_fits K n) [] E0 (tCons (tVar 4) (tCons (tVar 1) tNil))) [4]) (gName 3))
  (tSeq (tIfS (tTest (tOp rEq (tVar 2) (tC (.str "not")))) (tRet (tNotV (tOp (rIxL K) (tVar 3) (tC (.int 0))))) tNext)
  (tRet (tIf (tTest (tOp rEq (tVar 2) (tC (.str "and")))) (tOp (rEqD K) (tVar 3) (tLst (tCons (tC (.bl true)) (tCons (tC (.bl true)) tNil)))) (tOp (rIn K false) (tC (.bl true)) (tVar 3)))))))))
def N_law_fits : List Str := ["request", "row", "word", "found", "part"]
theorem pure_law_fits {n : Nat} (h : sp_law_fits K (n + 1) vs H Q E) : t_law_fits K n { nx := fun _ H' => Q .non H', rt := Q } (L2.start N_law_fits vs) H := by
  refine pu_body h (fun ds r ⟨_, _, e, _⟩ => by rw [e]; exact Nat.le_add_left 2 3) ?_
  rintro _ _ ⟨q, z, rfl, hd, hz, hr, rfl⟩
  refine std_seq (std_asg (evd_word rfl) (std_seq ?_))
  refine std_if (tvd_leafW q (evd_var rfl)) (fun e => ?_) fun e => std_next (std_seq ?_)
  · cases q with
    | opn x =>
      refine std_ret (evd_op (evd_vAt (x := x) (evd_var rfl) (evd_op (evd_var rfl) evd_int (op2_ixT (d := .int (x : Int)) (atI_nat (j := 1) rfl))) hz (hr x List.mem_cons_self)) (evd_op (d := .bl true) (evd_var (d := .str "open") rfl) evd_str (txt_eq _ _ (by decide +kernel))) op2_eqB) ?_
      show Da.bl (decide ((z.cps.toList[x]? == some 118) = true)) = .bl (z.cps.toList[x]? == some 118)
      cases z.cps.toList[x]? == some 118 <;> rfl
    | cls x =>
      refine std_ret (evd_op (evd_vAt (x := x) (evd_var rfl) (evd_op (evd_var rfl) evd_int (op2_ixT (d := .int (x : Int)) (atI_nat (j := 1) rfl))) hz (hr x List.mem_cons_self)) (evd_op (d := .bl false) (evd_var (d := .str "closed") rfl) evd_str (txt_eq _ _ (by decide +kernel))) op2_eqB) ?_
      show Da.bl (decide ((z.cps.toList[x]? == some 118) = false)) = .bl (!(z.cps.toList[x]? == some 118))
      cases z.cps.toList[x]? == some 118 <;> rfl
    | all => cases e
    | non => cases e
    | not a => cases e
    | and a b => cases e
    | or a b => cases e
  refine std_if (tvd_simpW q (evd_var rfl)) (fun e2 => ?_) fun e2 => std_next (std_seq ?_)
  · cases q with
    | all => exact std_ret (d := .bl true) (evd_op (evd_var (d := .str "all") rfl) evd_str (txt_eq _ _ (by decide +kernel))) rfl
    | non => exact std_ret (d := .bl false) (evd_op (evd_var (d := .str "none") rfl) evd_str (txt_eq _ _ (by decide +kernel))) rfl
    | opn x => cases e2
    | cls x => cases e2
    | not a => cases e2
    | and a b => cases e2
    | or a b => cases e2
  refine std_asg (EvO.frz (evo_lcN (js := [4]) (xs := q.parts) (φ := Req.da) (f := fun p => Da.bl (p.sem z.cps.toList)) (src_list (evd_call (eva_cons (evd_var rfl) eva_nil) ⟨q, rfl, rfl⟩)) (fun j h => h) (by have := parts_len q; omega) fun i p ep => ⟨_, tg_name, evd_call (eva_cons (evd_var rfl) (eva_cons (evd_var rfl) eva_nil)) ⟨p, z, rfl, holds_parts hd p (List.mem_of_getElem? ep), hz, inR_parts hr p (List.mem_of_getElem? ep), rfl⟩⟩)) (std_seq ?_)
  cases q with
  | not a =>
    refine std_if (b := true) (tvd_wordEq "not" _ (evd_var rfl) (by decide +kernel)) (fun _ => ?_) (fun e => nomatch e)
    exact std_ret (evd_notV (evd_op (evd_var rfl) evd_int (op2_ixL (d := .bl (a.sem z.cps.toList)) (atI_nat (j := 0) rfl)))) rfl
  | and a b =>
    refine std_if (b := false) (tvd_wordEq "and" _ (evd_var rfl) (by decide +kernel)) (fun e => nomatch e) fun _ => std_next ?_
    refine std_ret (evd_if (b := true) (tvd_wordEq "and" _ (evd_var rfl) (by decide +kernel)) (fun _ => evd_op (evd_var (d := .lst [.bl (a.sem z.cps.toList), .bl (b.sem z.cps.toList)]) rfl) (evo_lst (ds := [.bl true, .bl true]) (eva_cons evd_bl (eva_cons evd_bl eva_nil)) (Nat.le_add_left 2 99998)).frz (op2_eqD rfl rfl (by show 1 ≤ 64; omega) (by show 1 ≤ 64; omega))) fun e => nomatch e) ?_
    show Da.bl _ = .bl (a.sem z.cps.toList && b.sem z.cps.toList)
    cases a.sem z.cps.toList <;> cases b.sem z.cps.toList <;> rfl
  | or a b =>
    refine std_if (b := false) (tvd_wordEq "or" _ (evd_var rfl) (by decide +kernel)) (fun e => nomatch e) fun _ => std_next ?_
    refine std_ret (evd_if (b := false) (tvd_wordEq "or" _ (evd_var rfl) (by decide +kernel)) (fun e => nomatch e) fun _ => evd_op evd_bl (evd_var (d := .lst [.bl (a.sem z.cps.toList), .bl (b.sem z.cps.toList)]) rfl) (op2_inL (neg := false) rfl rfl)) ?_
    show Da.bl _ = .bl (a.sem z.cps.toList || b.sem z.cps.toList)
    cases a.sem z.cps.toList <;> cases b.sem z.cps.toList <;> rfl
  | opn x => cases e
  | cls x => cases e
  | all => cases e2
  | non => cases e2
theorem parts_holes {q : Req} (h : q.leaf = false) : q.parts.flatMap Req.holes = q.holes := by
  cases q with
  | opn x => cases h
  | cls x => cases h
  | all => rfl
  | non => rfl
  | not a => show a.holes ++ [] = a.holes; rw [List.append_nil]
  | and a b => show a.holes ++ (b.holes ++ []) = a.holes ++ b.holes; rw [List.append_nil]
  | or a b => show a.holes ++ (b.holes ++ []) = a.holes ++ b.holes; rw [List.append_nil]
def natsD (hs : List Nat) : List Da := hs.map fun h : Nat => Da.int (h : Int)
def sp_law_holes (K : PySem.W.Frag) (n : Nat) : Sp := PuSp K fun ds r => ∃ q : Req, ds = [q.da] ∧ q.dep < n ∧ q.size ≤ 20000 ∧ r = .lst (natsD q.holes)
def t_law_holes (K : PySem.W.Frag) (n : Nat) : TS := (tSeq (tIfS (tOr (tTest (tOp rEq (tOp (rIxT K) (tVar 0) (tC (.int 0))) (tC (.str "open")))) (tTest (tOp rEq (tOp (rIxT K) (tVar 0) (tC (.int 0))) (tC (.str "closed"))))) (tRet (tLst (tCons (tOp (rIxT K) (tVar 0) (tC (.int 1))) tNil))) tNext)
  (tSeq (tAsg (tLst tNil) (gName 1))
  (tSeq (tFor (iList K (tCall (sp_law_parts K) [] E0 (tCons (tVar 0) tNil))) (gName 2) (tDrop (tBM K "list" rExtend (tVar 1) (tCons (tCall (sp_law_holes K n) [] E0 (tCons (tVar 2) tNil)) tNil))))
  (tRet (tVar 1)))))
def N_law_holes : List Str := ["request", "found", "part"]
theorem pure_law_holes {n : Nat} (h : sp_law_holes K (n + 1) vs H Q E) : t_law_holes K n { nx := fun _ H' => Q .non H', rt := Q } (L2.start N_law_holes vs) H := by
  refine pu_body h (fun ds r ⟨_, e, _⟩ => by rw [e]; exact Nat.le_add_left 1 2) ?_
  rintro _ _ ⟨q, rfl, hd, hs, rfl⟩
  refine std_seq (std_if (tvd_leafW q (evd_word rfl)) (fun e => ?_) fun e => std_next ?_)
  · cases q with
    | opn x => exact std_ret (evo_lst (eva_cons (evd_op (evd_var rfl) evd_int (op2_ixT (d := .int (x : Int)) (atI_nat (j := 1) rfl))) eva_nil) (Nat.le_add_left 1 99999)).frz rfl
    | cls x => exact std_ret (evo_lst (eva_cons (evd_op (evd_var rfl) evd_int (op2_ixT (d := .int (x : Int)) (atI_nat (j := 1) rfl))) eva_nil) (Nat.le_add_left 1 99999)).frz rfl
    | all => cases e
    | non => cases e
    | not a => cases e
    | and a b => cases e
    | or a b => cases e
  refine std_seq (std_asgO (evo_lst eva_nil (by decide)) (std_seq ?_))
  refine std_for (js := [2]) (src_list (ds := q.parts.map Req.da) (evd_call (eva_cons (evd_var rfl) eva_nil) ⟨q, rfl, rfl⟩)) (fun i δ => ∃ e, δ = [.rep q.da, .own (natsD ((q.parts.take i).flatMap Req.holes)), e]) ⟨.any, rfl⟩ ?_ ?_
  · rintro i d δ1 e0 ⟨e2, rfl⟩
    rw [List.getElem?_map] at e0
    obtain ⟨p, ep, rfl⟩ := Option.map_eq_some_iff.mp e0
    have hp := List.mem_of_getElem? ep
    have hsp := size_part hp
    have hl1 := holes_size p
    have et : q.parts.take (i + 1) = q.parts.take i ++ [p] := by rw [List.take_add_one, ep]; rfl
    have e1 : (q.parts.take (i + 1)).flatMap Req.holes = (q.parts.take i).flatMap Req.holes ++ p.holes := by
      rw [et, List.flatMap_append]
      show _ ++ (p.holes ++ []) = _
      rw [List.append_nil]
    have hl2 : ((q.parts.take (i + 1)).flatMap Req.holes).length ≤ 20000 := by
      have e2 : q.parts.flatMap Req.holes = (q.parts.take (i + 1)).flatMap Req.holes ++ (q.parts.drop (i + 1)).flatMap Req.holes := by rw [← List.flatMap_append, List.take_append_drop]
      have e3 := parts_holes e
      have e4 := holes_size q
      rw [← e3, e2, List.length_append] at e4
      omega
    rw [e1, List.length_append] at hl2
    refine ⟨_, tg_name, std_extD (es := natsD p.holes) rfl (evd_call (eva_cons (evd_var rfl) eva_nil) ⟨p, rfl, holds_parts hd p hp, by omega, rfl⟩) (by unfold natsD; rw [List.length_map, List.length_map]; omega) ⟨.rep p.da, ?_⟩⟩
    rw [e1]
    unfold natsD
    rw [List.map_append]; rfl
  · rintro δ1 ⟨e2, rfl⟩
    rw [List.length_map, List.take_length, parts_holes e]
    exact std_frz (i := 1) rfl (std_ret (evd_var rfl) rfl)
def sp_law_landing (K : PySem.W.Frag) : Sp := PuSp K fun ds r => ∃ (ps : List Stp) (z : Str), ds = [progD ps, .str z] ∧ ps.length ≤ 60 ∧ z.length ≤ 24 ∧ (∀ h ∈ needN ps, h < z.length) ∧ r = .int (landN ps z.cps.toList 0 : Nat)
def t_law_landing (K : PySem.W.Frag) : TS := (tSeq (tAsg (tC (.int 0)) (gName 2))
  (tSeq (tFor (iList K (tVar 0)) (gName 3) (tIfS (tTest (tOp rEq (tOp (rIxT K) (tVar 3) (tC (.int 1))) (tVar 2))) (tAsg (tIf (tTest (tOp rEq (tOp (rIxT K) (tVar 3) (tC (.int 0))) (tC (.str "put")))) (tOp (rIxT K) (tVar 3) (tC (.int 2))) (tOp (rIxT K) (tVar 3) (tOp (rI0 fun i j => .int (i - j)) (tC (.int 4)) (tCB rInt1 (tCons (tOp rEq (tOp rIxS (tVar 1) (tOp (rIxT K) (tVar 3) (tC (.int 2)))) (tC (.str "v"))) tNil))))) (gName 2)) tNext))
  (tRet (tVar 2))))
def N_law_landing : List Str := ["program", "row", "tray", "step"]
theorem pure_law_landing (h : sp_law_landing K vs H Q E) : t_law_landing K { nx := fun _ H' => Q .non H', rt := Q } (L2.start N_law_landing vs) H := by
  refine pu_body h (fun ds r ⟨_, _, e, _⟩ => by rw [e]; exact Nat.le_add_left 2 2) ?_
  rintro _ _ ⟨ps, z, rfl, hl, hz, hn, rfl⟩
  refine std_seq (std_asg evd_int (std_seq ?_))
  refine std_for (js := [3]) (src_list (ds := ps.map Stp.da) (evd_var rfl)) (fun i δ => ∃ e, δ = [.rep (progD ps), .rep (.str z), .rep (.int ((landN (ps.take i) z.cps.toList 0 : Nat) : Int)), e]) ⟨.any, rfl⟩ ?_ ?_
  · rintro i d δ1 e0 ⟨e2, rfl⟩
    obtain ⟨p, e, rfl⟩ := prog_get e0
    have et : ps.take (i + 1) = ps.take i ++ [p] := by rw [List.take_add_one, e]; rfl
    have hm := List.mem_of_getElem? e
    rw [et, land_snoc]
    generalize landN (ps.take i) z.cps.toList 0 = t
    refine ⟨_, tg_name, ?_⟩
    cases p with
    | put a b =>
      refine std_if (b := decide (a = t)) (Tvd.is (tvd_test (evd_op (evd_op (evd_var rfl) evd_int (op2_ixT (d := .int (a : Int)) (atI_nat (j := 1) rfl))) (evd_var rfl) op2_eqI)) (decide_eq_decide.mpr (by omega))) (fun ha => ?_) fun ha => std_next ?_
      · have ha := of_decide_eq_true ha
        refine std_asg (d := .int (b : Int)) (evd_if (b := true) (tvd_wordEq "put" _ (evd_op (evd_var rfl) evd_int (op2_ixT (atI_nat (j := 0) rfl))) (by decide +kernel)) (fun _ => evd_op (evd_var rfl) evd_int (op2_ixT (d := .int (b : Int)) (atI_nat (j := 2) rfl))) fun e => nomatch e) ?_
        exact ⟨_, by rw [go_put, if_pos ha]; rfl⟩
      · have ha := of_decide_eq_false ha
        exact ⟨_, by rw [go_put, if_neg ha]; rfl⟩
    | drop a x c d =>
      have hx := hn x (need_mem hm)
      refine std_if (b := decide (a = t)) (Tvd.is (tvd_test (evd_op (evd_op (evd_var rfl) evd_int (op2_ixT (d := .int (a : Int)) (atI_nat (j := 1) rfl))) (evd_var rfl) op2_eqI)) (decide_eq_decide.mpr (by omega))) (fun ha => ?_) fun ha => std_next ?_
      · have ha := of_decide_eq_true ha
        refine std_asg (d := .int ((if (z.cps.toList[x]? == some 118) = true then c else d : Nat) : Int)) (evd_if (b := false) (tvd_wordEq "drop" _ (evd_op (evd_var rfl) evd_int (op2_ixT (atI_nat (j := 0) rfl))) (by decide +kernel)) (fun e => nomatch e) fun _ => evd_op (evd_var rfl) (evd_op evd_int (evd_cb (eva_cons (evd_vAt (x := x) (evd_var rfl) (evd_op (evd_var rfl) evd_int (op2_ixT (d := .int (x : Int)) (atI_nat (j := 2) rfl))) hz hx) eva_nil) opn_intB) (op2_I0 (g := fun i j => i - j))) (op2_ixT ?_)) ?_
        · cases z.cps.toList[x]? == some 118
          · exact atI_nat (j := 4) rfl
          · exact atI_nat (j := 3) rfl
        · exact ⟨_, by rw [go_drop, if_pos ha]; rfl⟩
      · have ha := of_decide_eq_false ha
        exact ⟨_, by rw [go_drop, if_neg ha]; rfl⟩
  · rintro δ ⟨e, rfl⟩
    rw [List.length_map, List.take_length]
    exact std_ret (evd_var rfl) rfl
def sp_law_is_number (K : PySem.W.Frag) : Sp := PuSp K fun ds r => ∃ i m : Int, ds = [.int i, .int m] ∧ 0 ≤ i ∧ i ≤ m ∧ r = .bl true
def t_law_is_number (K : PySem.W.Frag) : TS := (tRet (tAndV (tCB (rIsi K) (tCons (tVar 0) (tCons (tC (.ty "int")) tNil))) (tAndV (tOp (rIsB true true) (tVar 0) (tC (.bl true))) (tAndV (tOp (rIsB false true) (tVar 0) (tC (.bl false))) (tChain (rI0 fun i j => .bl (decide (i ≤ j))) (rI0 fun i j => .bl (decide (i ≤ j))) (tC (.int 0)) (tVar 0) (tVar 1))))))
def N_law_is_number : List Str := ["value", "most"]
theorem pure_law_is_number (h : sp_law_is_number K vs H Q E) : t_law_is_number K { nx := fun _ H' => Q .non H', rt := Q } (L2.start N_law_is_number vs) H := by
  refine pu_body h (fun ds r ⟨_, _, e, _⟩ => by rw [e]; exact Nat.le_refl 2) ?_
  rintro _ _ ⟨i, m, rfl, h0, h1, rfl⟩
  refine std_ret (d := .bl (true && (true && (true && (decide ((0 : Int) ≤ i) && decide (i ≤ m)))))) ?_ (by rw [decide_eq_true h0, decide_eq_true h1]; rfl)
  exact evd_and (evd_isiN true "int" (evd_var rfl)) fun _ => evd_and (evd_op (evd_var rfl) evd_bl op2_isBI) fun _ => evd_and (evd_op (evd_var rfl) evd_bl op2_isBI) fun _ => evd_chain evd_int (evd_var rfl) (fun _ => evd_var rfl) op2_B0 fun _ => op2_B0
theorem txt_ne (a b : Str) {c : Bool} (h : decide (a = b) = c) : Op2 K rNe (.str a) (.str b) (.bl (!c)) := by rw [← h]; exact op2_neS
theorem evd_noneLc {te : TE} {t : TT} {wi : TI} {g : TG} {vs js : List Nat} {ds : List Da} {f : Da → Da} (hs : Srcd K wi δ ds) (hj : ∀ j ∈ js, j ∈ vs) (hn : ds.length ≤ 50000)
    (h : ∀ (i : Nat) d, ds[i]? = some d → ∃ δ2, Tgd K g js d (wipeE δ vs) δ2 ∧ Tvd K t δ2 false) : Evd K (tLc wi g t te vs) δ (.lst []) :=
  Evd.is (EvO.frz (evo_lc (K := K) (keep := fun _ => false) (f := fun d => d) hs hj hn fun i d e => by
    obtain ⟨δ2, h1, h2⟩ := h i d e
    exact ⟨δ2, h1, h2, fun z => nomatch z⟩)) (by rw [show ds.filter (fun _ => false) = [] from List.filter_eq_nil_iff.mpr fun _ _ z => by cases z]; rfl)
def sp_law_is_step (K : PySem.W.Frag) : Sp := PuSp K fun ds r => ∃ p : Stp, ds = [p.da] ∧ p.Ok ∧ r = .bl true
def t_law_is_step (K : PySem.W.Frag) : TS := (tSeq (tIfS (tOr (tNot (tB (tCB (rIsi K) (tCons (tVar 0) (tCons (tC (.ty "tuple")) tNil))))) (tOr (tTest (tOp (rIn K true) (tCB (rLenA K) (tCons (tVar 0) tNil)) (tTup (tCons (tC (.int 3)) (tCons (tC (.int 5)) tNil))))) (tNot (tB (tCB (rIsi K) (tCons (tOp (rIxT K) (tVar 0) (tC (.int 0))) (tCons (tC (.ty "str")) tNil))))))) (tRet (tC (.bl false))) tNext)
  (tSeq (tIfS (tTest (tOp rNe (tOp (rIxT K) (tVar 0) (tC (.int 0))) (tDGet (tDisp [((tC (.int 3)), (tC (.str "put"))), ((tC (.int 5)), (tC (.str "drop")))]) (tCB (rLenA K) (tCons (tVar 0) tNil))))) (tRet (tC (.bl false))) tNext)
  (tSeq (tAsg (tIf (tTest (tOp rEq (tCB (rLenA K) (tCons (tVar 0) tNil)) (tC (.int 3)))) (tLst (tCons (tC (.int 7)) (tCons (tC (.int 7)) tNil))) (tLst (tCons (tC (.int 7)) (tCons (tC (.int 23)) (tCons (tC (.int 7)) (tCons (tC (.int 7)) tNil)))))) (gName 1))
  (tRet (tOp (rEqD K) (tLc (iEnum K (tCons (tVar 1) tNil)) (gTup K 2 (gCons (gName 2) (gCons (gName 3) gNil))) (tNot (tB (tCall (sp_law_is_number K) [] E0 (tCons (tOp (rIxT K) (tVar 0) (tOp (rI0 fun i j => .int (i + j)) (tVar 2) (tC (.int 1)))) (tCons (tVar 3) tNil))))) (tVar 2) [2, 3]) (tLst tNil))))))
def N_law_is_step : List Str := ["value", "bounds", "k", "most"]
theorem pure_law_is_step (h : sp_law_is_step K vs H Q E) : t_law_is_step K { nx := fun _ H' => Q .non H', rt := Q } (L2.start N_law_is_step vs) H := by
  refine pu_body h (fun ds r ⟨_, e, _⟩ => by rw [e]; exact Nat.le_add_left 1 3) ?_
  rintro _ _ ⟨p, rfl, ok, rfl⟩
  cases p with
  | put a b =>
    obtain ⟨o1, o2⟩ := ok
    refine std_seq (std_if (b := false) (Tvd.is (tvd_or (tvd_not (tvd_B (evd_isiN true "tuple" (evd_var rfl)))) fun _ => tvd_or (tvd_test (evd_op (evd_cb (d := .int 3) (eva_cons (evd_var rfl) eva_nil) opn_lenT) (evd_tup (eva_cons evd_int (eva_cons evd_int eva_nil)) (Nat.le_add_left 2 99998)) (op2_inT (neg := true) rfl rfl))) fun _ => tvd_not (tvd_B (b := true) (evd_isiN true "str" (evd_op (evd_var rfl) evd_int (op2_ixT (d := .str "put") (atI_nat (j := 0) rfl)))))) rfl) (fun e => nomatch e) fun _ => std_next ?_)
    refine std_seq (std_if (b := !true) (tvd_test (evd_op (evd_op (evd_var rfl) evd_int (op2_ixT (d := .str "put") (atI_nat (j := 0) rfl))) (evd_disp2 (k := 3) (z := "put") (evd_cb (d := .int 3) (eva_cons (evd_var rfl) eva_nil) opn_lenT) (by decide) (.inl ⟨rfl, rfl⟩)) (txt_ne _ _ (by decide +kernel)))) (fun e => nomatch e) fun _ => std_next ?_)
    refine std_seq (std_asg (d := .lst [.int 7, .int 7]) (evd_if (b := true) (tvd_test (evd_op (evd_cb (d := .int 3) (eva_cons (evd_var rfl) eva_nil) opn_lenT) evd_int op2_eqI)) (fun _ => (evo_lst (eva_cons evd_int (eva_cons evd_int eva_nil)) (Nat.le_add_left 2 99998)).frz) fun e => nomatch e) ?_)
    refine std_ret (evd_op (evd_noneLc (f := fun d => d) (js := [2] ++ ([3] ++ [])) (src_enumL (evd_var rfl)) (fun j h => h) (Nat.le_add_left 2 49998) ?_) (evo_lst eva_nil (by decide)).frz (op2_eqNil rfl (Nat.zero_le _))) rfl
    rintro i d e
    obtain ⟨e1, e2, rfl⟩ := enumL_at e
    match i, e2 with
    | 0, e2 => cases e2; exact ⟨_, tg_two, Tvd.is (tvd_not (tvd_B (evd_call (eva_cons (evd_op (evd_var rfl) (evd_op (evd_var rfl) evd_int op2_I0) (op2_ixT (d := .int (a : Int)) (atI_nat (j := 1) rfl))) (eva_cons (evd_var rfl) eva_nil)) ⟨(a : Int), 7, rfl, by omega, by omega, rfl⟩))) rfl⟩
    | 1, e2 => cases e2; exact ⟨_, tg_two, Tvd.is (tvd_not (tvd_B (evd_call (eva_cons (evd_op (evd_var rfl) (evd_op (evd_var rfl) evd_int op2_I0) (op2_ixT (d := .int (b : Int)) (atI_nat (j := 2) rfl))) (eva_cons (evd_var rfl) eva_nil)) ⟨(b : Int), 7, rfl, by omega, by omega, rfl⟩))) rfl⟩
    | n + 2, e2 => cases e2
  | drop a h c d =>
    obtain ⟨o1, o2, o3, o4⟩ := ok
    refine std_seq (std_if (b := false) (Tvd.is (tvd_or (tvd_not (tvd_B (evd_isiN true "tuple" (evd_var rfl)))) fun _ => tvd_or (tvd_test (evd_op (evd_cb (d := .int 5) (eva_cons (evd_var rfl) eva_nil) opn_lenT) (evd_tup (eva_cons evd_int (eva_cons evd_int eva_nil)) (Nat.le_add_left 2 99998)) (op2_inT (neg := true) rfl rfl))) fun _ => tvd_not (tvd_B (b := true) (evd_isiN true "str" (evd_op (evd_var rfl) evd_int (op2_ixT (d := .str "drop") (atI_nat (j := 0) rfl)))))) rfl) (fun e => nomatch e) fun _ => std_next ?_)
    refine std_seq (std_if (b := !true) (tvd_test (evd_op (evd_op (evd_var rfl) evd_int (op2_ixT (d := .str "drop") (atI_nat (j := 0) rfl))) (evd_disp2 (k := 5) (z := "drop") (evd_cb (d := .int 5) (eva_cons (evd_var rfl) eva_nil) opn_lenT) (by decide) (.inr ⟨rfl, rfl⟩)) (txt_ne _ _ (by decide +kernel)))) (fun e => nomatch e) fun _ => std_next ?_)
    refine std_seq (std_asg (d := .lst [.int 7, .int 23, .int 7, .int 7]) (evd_if (b := false) (tvd_test (evd_op (evd_cb (d := .int 5) (eva_cons (evd_var rfl) eva_nil) opn_lenT) evd_int op2_eqI)) (fun e => nomatch e) fun _ => (evo_lst (eva_cons evd_int (eva_cons evd_int (eva_cons evd_int (eva_cons evd_int eva_nil)))) (Nat.le_add_left 4 99996)).frz) ?_)
    refine std_ret (evd_op (evd_noneLc (f := fun d => d) (js := [2] ++ ([3] ++ [])) (src_enumL (evd_var rfl)) (fun j h => h) (Nat.le_add_left 4 49996) ?_) (evo_lst eva_nil (by decide)).frz (op2_eqNil rfl (Nat.zero_le _))) rfl
    rintro i x e
    obtain ⟨e1, e2, rfl⟩ := enumL_at e
    match i, e2 with
    | 0, e2 => cases e2; exact ⟨_, tg_two, Tvd.is (tvd_not (tvd_B (evd_call (eva_cons (evd_op (evd_var rfl) (evd_op (evd_var rfl) evd_int op2_I0) (op2_ixT (d := .int (a : Int)) (atI_nat (j := 1) rfl))) (eva_cons (evd_var rfl) eva_nil)) ⟨(a : Int), 7, rfl, by omega, by omega, rfl⟩))) rfl⟩
    | 1, e2 => cases e2; exact ⟨_, tg_two, Tvd.is (tvd_not (tvd_B (evd_call (eva_cons (evd_op (evd_var rfl) (evd_op (evd_var rfl) evd_int op2_I0) (op2_ixT (d := .int (h : Int)) (atI_nat (j := 2) rfl))) (eva_cons (evd_var rfl) eva_nil)) ⟨(h : Int), 23, rfl, by omega, by omega, rfl⟩))) rfl⟩
    | 2, e2 => cases e2; exact ⟨_, tg_two, Tvd.is (tvd_not (tvd_B (evd_call (eva_cons (evd_op (evd_var rfl) (evd_op (evd_var rfl) evd_int op2_I0) (op2_ixT (d := .int (c : Int)) (atI_nat (j := 3) rfl))) (eva_cons (evd_var rfl) eva_nil)) ⟨(c : Int), 7, rfl, by omega, by omega, rfl⟩))) rfl⟩
    | 3, e2 => cases e2; exact ⟨_, tg_two, Tvd.is (tvd_not (tvd_B (evd_call (eva_cons (evd_op (evd_var rfl) (evd_op (evd_var rfl) evd_int op2_I0) (op2_ixT (d := .int (d : Int)) (atI_nat (j := 4) rfl))) (eva_cons (evd_var rfl) eva_nil)) ⟨(d : Int), 7, rfl, by omega, by omega, rfl⟩))) rfl⟩
    | n + 4, e2 => cases e2
def sp_law_is_program (K : PySem.W.Frag) : Sp := PuSp K fun ds r => ∃ ps : List Stp, ds = [progD ps] ∧ ProgOk ps ∧ r = .bl true
def t_law_is_program (K : PySem.W.Frag) : TS := (tSeq (tIfS (tOr (tNot (tB (tCB (rIsiT K) (tCons (tVar 0) (tCons (tTup (tCons (tC (.ty "list")) (tCons (tC (.ty "tuple")) tNil))) tNil))))) (tTest (tOp (rI0 fun i j => .bl (decide (j < i))) (tCB (rLenA K) (tCons (tVar 0) tNil)) (tC (.int 60))))) (tRet (tC (.bl false))) tNext)
  (tRet (tOp (rEqD K) (tLc (iList K (tVar 0)) (gName 1) (tNot (tB (tCall (sp_law_is_step K) [] E0 (tCons (tVar 1) tNil)))) (tVar 1) [1]) (tLst tNil))))
def N_law_is_program : List Str := ["value", "step"]
theorem pure_law_is_program (h : sp_law_is_program K vs H Q E) : t_law_is_program K { nx := fun _ H' => Q .non H', rt := Q } (L2.start N_law_is_program vs) H := by
  refine pu_body h (fun ds r ⟨_, e, _⟩ => by rw [e]; exact Nat.le_add_left 1 1) ?_
  rintro _ _ ⟨ps, rfl, ok, rfl⟩
  have hl := ok.len
  refine std_seq (std_if (b := false) (Tvd.is (tvd_or (tvd_not (tvd_B (evd_isiLT (b := true) (ds := ps.map Stp.da) (evd_var rfl)))) fun _ => tvd_test (evd_op (evd_cb (eva_cons (evd_var rfl) eva_nil) (opn_lenL (ds := ps.map Stp.da))) evd_int op2_B0)) (by rw [decide_eq_false (by rw [List.length_map]; omega)]; rfl)) (fun e => nomatch e) fun _ => std_next ?_)
  refine std_ret (evd_op (evd_noneLc (f := fun d => d) (js := [1]) (src_list (ds := ps.map Stp.da) (evd_var rfl)) (fun j h => h) (by rw [List.length_map]; omega) ?_) (evo_lst eva_nil (by decide)).frz (op2_eqNil rfl (Nat.zero_le _))) rfl
  rintro i d e
  obtain ⟨p, e1, rfl⟩ := prog_get e
  exact ⟨_, tg_name, Tvd.is (tvd_not (tvd_B (evd_call (eva_cons (evd_var rfl) eva_nil) ⟨p, rfl, ok.ok p (List.mem_of_getElem? e1), rfl⟩))) rfl⟩
end
end R
set_option maxHeartbeats 4123456
/-! QF: the law's requests and steps, drawn. -/
namespace R
open PySem L2
section
variable {K : PySem.W.Frag} {vs : List V} {H : Hp} {Q : VK} {E : XK} {δ : List En} {te ti : TE} {ds : List Da}
/-- a def that draws, of a ghost x -/
def BxG {α : Type} (K : PySem.W.Frag) (c : Nat) (pre : α → List Da → Prop) (P : α → Da → Prop) : Sp := fun vs H Q E => ∃ x, BxSp K (fun _ => c) (pre x) (fun _ r => P x r) vs H Q E
theorem bxg_body {α : Type} {N : List Str} {t : TS} {c : Nat} {pre : α → List Da → Prop} {P : α → Da → Prop} (h : BxG K c pre P vs H Q E) (hN : ∀ x ds, pre x ds → ds.length + 1 ≤ N.length)
    (hb : ∀ n x ds, n + c ≤ 1000000 → pre x ds → Std K t (envOf N (.box n :: ds.map .rep)) { nx := fun _ => False, rt := fun d δ' => P x d ∧ ∃ m, m ≤ n + c ∧ δ'[0]? = some (.box m) }) : t { nx := fun _ H' => Q .non H', rt := Q } (L2.start N vs) H := by
  obtain ⟨x, h⟩ := h
  exact bx_body h (hN x) fun n ds hn hp => hb n x ds hn hp
theorem eve_callG {α : Type} {i n c : Nat} {pre : α → List Da → Prop} {P : α → Da → Prop} {t : TA} {E0 : XK} (x : α) (hi : δ[i]? = some (.box n)) (h : EvdA K t δ ds) (hn : n + c ≤ 1000000) (hp : pre x ds) :
    Eve K (tCall (BxG K c pre P) [] E0 (tCons (tVar i) t)) δ c (P x) := fun bp He bx σ G H le er Q q => by
  obtain ⟨b, c0, c1, c2, e, e2, g, hb, v⟩ := er.boxAt hi
  refine ⟨.ref b, e, h bp He bx σ G H le er _ fun vs G1 H1 x1 r1 => ?_⟩
  have hb1 : H1 b = some (.lst [.int c0, .int c1, .int c2]) := x1.hh b _ (fun z => nomatch z) hb
  have g1 : G1 b = none := (x1.gs b (by rw [hb]; exact fun z => nomatch z)).trans g
  refine ⟨x, G1, b, vs, ds, n, c0, c1, c2, by rw [List.append_nil], x1.le, g1, hb1, v, hn, r1, hp, fun v d G2 H2 x2 b2 r2 p2 => ?_⟩
  subst e2
  exact q v d G2 H2 (x1.none_to.trans x2) (((x1.boxStep 0).trans b2).mono (by show 0 + c ≤ c; omega)) r2 p2
theorem eve_callGE {α : Type} {i n k c : Nat} {pre : α → List Da → Prop} {P : α → Da → Prop} {P' : Da → Prop} {t : TA} {E0 : XK} {PA : List Da → Prop} (hi : δ[i]? = some (.box n)) (h : EveA K t δ k PA) (hn : n + k + c ≤ 1000000) (hp : ∀ ds, PA ds → ∃ x, pre x ds ∧ ∀ r, P x r → P' r) :
    Eve K (tCall (BxG K c pre P) [] E0 (tCons (tVar i) t)) δ (k + c) P' := fun bp He bx σ G H le er Q q => by
  obtain ⟨b, c0, c1, c2, e, e2, g, hb, v⟩ := er.boxAt hi
  refine ⟨.ref b, e, h bp He bx σ G H le er _ fun vs ds G1 H1 x1 b1 r1 p1 => ?_⟩
  subst e2
  obtain ⟨e0, e1, e3, hb1, v1⟩ := b1 b c0 c1 c2 n rfl hb v
  have g1 : G1 b = none := (x1.gs b (by rw [hb]; exact fun z => nomatch z)).trans g
  obtain ⟨x, hpre, himp⟩ := hp ds p1
  refine ⟨x, G1, b, vs, ds, n + k, e0, e1, e3, by rw [List.append_nil], x1.le, g1, hb1, v1, hn, r1, hpre, fun v d G2 H2 x2 b2 r2 p2 => ?_⟩
  exact q v d G2 H2 (x1.trans x2) (b1.trans b2) r2 (himp d p2)
/-- a draw whose bound is drawn -/
theorem take_evE {i n k : Nat} {PM : Int → Prop} (hi : δ[i]? = some (.box n)) (h : Eve K te δ k (fun d => ∃ m : Int, d = .int m ∧ PM m)) (hn : n + k + 1 ≤ 1000000) (hp : ∀ m, PM m → 0 < m ∧ m ≤ 1000000) :
    Eve K (tCall (sp_law_take K) [] E0 (tCons (tVar i) (tCons te tNil))) δ (k + 1) (fun r => ∃ m d : Int, PM m ∧ r = .int d ∧ 0 ≤ d ∧ d < m) :=
  (eve_callE (c := fun _ => 1) (c' := k + 1) hi (eveA_one h) (fun ds ⟨d, e, m, e2, pm⟩ => ⟨hn, ⟨m, by rw [e, e2], (hp m pm).1, (hp m pm).2⟩, Nat.le_refl _⟩)).mono fun r ⟨ds, ⟨d, e, m, e2, pm⟩, m', d', e3, p⟩ => by
    rw [e, e2] at e3
    cases e3
    exact ⟨m, d', pm, p⟩
/-- one of a list, its place drawn -/
theorem eve_ixL {c : Nat} (hl : Evd K te δ (.lst ds)) (hi : Eve K ti δ c (fun d => ∃ k : Int, d = .int k ∧ 0 ≤ k ∧ k < (ds.length : Int))) : Eve K (tOp (rIxL K) te ti) δ c (fun d => d ∈ ds) :=
  (eve_op (c1 := 0) (P := fun d => d ∈ ds) hl.eve (by rw [bmp_zero]; exact hi) (by
    rintro _ _ rfl ⟨k, rfl, k0, k1⟩
    have hk : k.toNat < ds.length := by omega
    have := atI_nat (List.getElem?_eq_getElem hk)
    rw [Int.toNat_of_nonneg k0] at this
    exact ⟨_, op2_ixL this, List.getElem_mem hk⟩)).le (by omega)
theorem lift_listI {α : Type} {mk : α → Da} {p : Nat → α → Prop} : ∀ {rs : List Da} (k : Nat), (∀ (i : Nat) r, rs[i]? = some r → ∃ a, r = mk a ∧ p (k + i) a) → ∃ as : List α, rs = as.map mk ∧ ∀ (i : Nat) a, as[i]? = some a → p (k + i) a
  | [], _, _ => ⟨[], rfl, fun i a h => nomatch h⟩
  | r :: rs, k, h => by
    obtain ⟨a, rfl, pa⟩ := h 0 r rfl
    obtain ⟨as, rfl, pas⟩ := lift_listI (mk := mk) (p := p) (rs := rs) (k + 1) fun i r e => by
      obtain ⟨a, e1, pa⟩ := h (i + 1) r e
      exact ⟨a, e1, by rw [Nat.add_assoc, Nat.add_comm 1 i]; exact pa⟩
    refine ⟨a :: as, rfl, fun i b hb => ?_⟩
    cases i with
    | zero => cases hb; exact pa
    | succ i =>
      have := pas i b hb
      rw [Nat.add_assoc, Nat.add_comm 1 i] at this
      exact this
theorem mem_nats {hs : List Nat} {d : Da} (h : d ∈ natsD hs) : ∃ x ∈ hs, d = .int (x : Int) := by
  obtain ⟨x, hx, rfl⟩ := List.mem_map.mp h
  exact ⟨x, hx, rfl⟩
theorem natsD_len (hs : List Nat) : (natsD hs).length = hs.length := by unfold natsD; rw [List.length_map]
/-- a hole drawn -/
theorem eve_hole {tb : TE} {hs : List Nat} {i n : Nat} (hi : δ[i]? = some (.box n)) (h : Evd K te δ (.lst (natsD hs))) (hn : n + 1 ≤ 1000000) (h1 : 1 ≤ hs.length) (h2 : hs.length ≤ 1000) :
    Eve K (tOp (rIxL K) te (tCall (sp_law_take K) [] E0 (tCons (tVar i) (tCons (tCB (rLenA K) (tCons te tNil)) tNil)))) δ 1 (fun d => ∃ x ∈ hs, d = .int (x : Int)) :=
  (eve_ixL h ((take_ev (m := (hs.length : Int)) hi (Evd.is (evd_cb (eva_cons h eva_nil) opn_lenL) (by rw [natsD_len])) hn (by omega) (by omega)).mono fun r ⟨d, e, d0, d1⟩ => ⟨d, e, d0, by rw [natsD_len]; exact d1⟩)).mono fun d hd => mem_nats hd
/-- a word drawn of two -/
theorem eve_word2 {a b : Str} {i n : Nat} (hi : δ[i]? = some (.box n)) (hn : n + 1 ≤ 1000000) :
    Eve K (tOp (rIxL K) (tLst (tCons (tC (.str a)) (tCons (tC (.str b)) tNil))) (tCall (sp_law_take K) [] E0 (tCons (tVar i) (tCons (tC (.int 2)) tNil)))) δ 1 (fun d => d = .str a ∨ d = .str b) :=
  (eve_ixL (ds := [.str a, .str b]) (evo_lst (eva_cons evd_str (eva_cons evd_str eva_nil)) (Nat.le_add_left 2 99998)).frz (take_ev (m := 2) hi evd_int hn (by decide) (by decide))).mono fun d hd => by
    rcases List.mem_cons.mp hd with h | hd
    · exact .inl h
    · exact .inr (List.mem_singleton.mp hd)
def sp_law_step (K : PySem.W.Frag) : Sp := BxG (α := List Nat) K 8 (fun hs ds => ds = [.lst (natsD hs)] ∧ 1 ≤ hs.length ∧ hs.length ≤ 1000 ∧ ∀ h ∈ hs, h < 24) (fun hs r => ∃ p : Stp, r = p.da ∧ p.Ok ∧ ∀ h ∈ p.needle, h ∈ hs)
def t_law_step (K : PySem.W.Frag) : TS := (tSeq (tAsg (tLc (iRng1 (tCons (tC (.int 3)) tNil)) (gName 3) tYes (tCall (sp_law_take K) [] E0 (tCons (tVar 0) (tCons (tOp (rIxL K) (tLst (tCons (tC (.int 3)) (tCons (tC (.int 4)) (tCons (tC (.int 8)) tNil)))) (tCall (sp_law_take K) [] E0 (tCons (tVar 0) (tCons (tC (.int 3)) tNil)))) tNil))) [3]) (gName 2))
  (tSeq (tIfS (tTest (tOp rEq (tCall (sp_law_take K) [] E0 (tCons (tVar 0) (tCons (tC (.int 5)) tNil))) (tC (.int 0)))) (tRet (tTup (tCons (tC (.str "put")) (tCons (tOp (rIxL K) (tVar 2) (tC (.int 0))) (tCons (tOp (rIxL K) (tVar 2) (tC (.int 1))) tNil))))) tNext)
  (tRet (tTup (tCons (tC (.str "drop")) (tCons (tOp (rIxL K) (tVar 2) (tC (.int 0))) (tCons (tOp (rIxL K) (tVar 1) (tCall (sp_law_take K) [] E0 (tCons (tVar 0) (tCons (tCB (rLenA K) (tCons (tVar 1) tNil)) tNil)))) (tCons (tOp (rIxL K) (tVar 2) (tC (.int 1))) (tCons (tOp (rIxL K) (tVar 2) (tC (.int 2))) tNil)))))))))
def N_law_step : List Str := ["box", "holes", "trays", "k"]
theorem pure_law_step (h : sp_law_step K vs H Q E) : t_law_step K { nx := fun _ H' => Q .non H', rt := Q } (L2.start N_law_step vs) H := by
  refine bxg_body h (fun x ds ⟨e, _⟩ => by rw [e]; exact Nat.le_add_left 2 2) ?_
  rintro n hs _ hn ⟨rfl, h1, h2, h24⟩
  have hn : n + 8 ≤ 1000000 := hn
  refine std_seq (std_asgE (c := 6) (P := fun d => ∃ a b c : Nat, d = .lst [.int (a : Int), .int (b : Int), .int (c : Int)] ∧ a < 8 ∧ b < 8 ∧ c < 8) ((EveO.frz (eveo_lc (c := 2) (js := [3]) (P := fun _ r => ∃ t : Nat, r = .int (t : Int) ∧ t < 8) (src_rng1 (n := 3) (eva_cons evd_int eva_nil) (by decide) (by decide)) (fun j h => h) (by decide) ?_)).imp (by decide) ?_) ?_)
  · rintro i d e
    obtain ⟨hi, rfl⟩ := irng_at e
    have hi : i < 3 := hi
    refine ⟨_, tg_name, (take_evE (n := n + i * 2) (k := 1) (PM := fun m => m = 3 ∨ m = 4 ∨ m = 8) rfl ((eve_ixL (ds := [.int 3, .int 4, .int 8]) (evo_lst (eva_cons evd_int (eva_cons evd_int (eva_cons evd_int eva_nil))) (Nat.le_add_left 3 99997)).frz (take_ev (n := n + i * 2) (m := 3) rfl evd_int (by omega) (by decide) (by decide))).mono ?_) (by omega) (fun m hm => by omega)).mono ?_⟩
    · rintro d hd
      rcases List.mem_cons.mp hd with rfl | hd
      · exact ⟨_, rfl, .inl rfl⟩
      rcases List.mem_cons.mp hd with rfl | hd
      · exact ⟨_, rfl, .inr (.inl rfl)⟩
      rw [List.mem_singleton.mp hd]
      exact ⟨_, rfl, .inr (.inr rfl)⟩
    · rintro _ ⟨m, d, hm, rfl, d0, d1⟩
      exact ⟨d.toNat, by rw [Int.toNat_of_nonneg d0], by omega⟩
  · rintro _ ⟨rs, rfl, hl, hP⟩
    obtain ⟨ts, rfl, ht⟩ := lift_list (mk := fun t : Nat => Da.int (t : Int)) (p := fun t => t < 8) hP
    have hl : (ts.map fun t : Nat => Da.int (t : Int)).length = 3 := hl
    rw [List.length_map] at hl
    match ts, hl, ht with
    | [a, b, c], _, ht => exact ⟨a, b, c, rfl, ht a List.mem_cons_self, ht b (List.mem_cons_of_mem _ List.mem_cons_self), ht c (List.mem_cons_of_mem _ (List.mem_cons_of_mem _ List.mem_cons_self))⟩
  rintro _ ⟨a, b, c, rfl, ha, hb, hc⟩
  have ix : ∀ (δ' : List En) (j : Nat) (t : Nat), δ'[2]? = some (.rep (.lst [.int (a : Int), .int (b : Int), .int (c : Int)])) → ([a, b, c] : List Nat)[j]? = some t → Evd K (tOp (rIxL K) (tVar 2) (tC (.int (j : Int)))) δ' (.int (t : Int)) := fun δ' j t h2 hj =>
    evd_op (evd_var h2) evd_int (op2_ixL (atI_nat (by
      have := congrArg (Option.map fun t : Nat => Da.int (t : Int)) hj
      rw [← List.getElem?_map] at this
      exact this)))
  refine std_seq (std_ifE (c := 1 + 0) (P := fun _ => True) (tve_test (eve_op (c2 := 0) (P := fun d => ∃ b, d = .bl b) (take_ev (n := n + 6) (m := 5) rfl evd_int (by omega) (by decide) (by decide)) evd_int.eve ?_) (fun d ⟨b, e⟩ => ⟨b, e, trivial⟩)) (fun _ => ?_) fun _ => std_next ?_)
  · rintro _ _ ⟨x, rfl, _, _⟩ rfl
    exact ⟨_, op2_eqI, _, rfl⟩
  · refine std_ret (evd_tup (eva_cons evd_str (eva_cons (ix _ 0 a rfl rfl) (eva_cons (ix _ 1 b rfl rfl) eva_nil))) (Nat.le_add_left 3 99997)) ⟨⟨.put a b, rfl, ⟨ha, hb⟩, fun x hx => nomatch hx⟩, n + 6 + 1, by show n + 6 + 1 ≤ n + 8; omega, rfl⟩
  · refine std_retE (c := 0 + (0 + (1 + (0 + (0 + 0))))) (P := fun r => ∃ x ∈ hs, r = (Stp.drop a x b c).da) (eve_tup (eveA_cons evd_str.eve fun _ => eveA_cons (ix _ 0 a rfl rfl).eve fun _ => eveA_cons (eve_hole (tb := tVar 0) (n := n + 6 + 1 + 0 + 0) (hs := hs) rfl (evd_var rfl) (by omega) h1 h2) fun _ => eveA_cons (ix _ 1 b rfl rfl).eve fun _ => eveA_cons (ix _ 2 c rfl rfl).eve fun _ => eveA_nil) ?_) ?_
    · rintro _ ⟨_, _, rfl, rfl, _, _, rfl, rfl, _, _, rfl, ⟨x, hx, rfl⟩, _, _, rfl, rfl, _, _, rfl, rfl, rfl⟩
      exact ⟨Nat.le_add_left 5 99995, x, hx, rfl⟩
    · rintro _ ⟨x, hx, rfl⟩
      exact ⟨⟨.drop a x b c, rfl, ⟨ha, h24 x hx, hb, hc⟩, fun y hy => by rw [List.mem_singleton.mp hy]; exact hx⟩, _, by show n + 6 + 1 + (0 + (0 + (1 + (0 + (0 + 0))))) ≤ n + 8; omega, rfl⟩
/-- neither all nor none -/
def Req.ns : Req → Bool
  | .opn _ => true | .cls _ => true | .all => false | .non => false
  | .not r => ns r
  | .and a b => ns a && ns b
  | .or a b => ns a && ns b
theorem steps_len : ∀ (q : Req) (s g b l : Nat), q.ns = true → (stepsN q s g b l).length = q.holes.length
  | .opn h, _, _, _, _, _ => rfl
  | .cls h, _, _, _, _, _ => rfl
  | .all, _, _, _, _, h => by cases h
  | .non, _, _, _, _, h => by cases h
  | .not r, s, g, b, l, h => steps_len r s b g l h
  | .and x y, s, g, b, l, h => by
    have h := Bool.and_eq_true_iff.mp h
    show List.length (stepsN x s (3 + l) b (l + 1) ++ stepsN y (3 + l) g b (l + 1)) = List.length (x.holes ++ y.holes)
    rw [List.length_append, List.length_append, steps_len x _ _ _ _ h.1, steps_len y _ _ _ _ h.2]
  | .or x y, s, g, b, l, h => by
    have h := Bool.and_eq_true_iff.mp h
    show List.length (stepsN x s g (3 + l) (l + 1) ++ stepsN y (3 + l) g b (l + 1)) = List.length (x.holes ++ y.holes)
    rw [List.length_append, List.length_append, steps_len x _ _ _ _ h.1, steps_len y _ _ _ _ h.2]
/-- a request of r rounds -/
structure Rnd (hs : List Nat) (r : Nat) (q : Req) : Prop where
  dep : q.dep ≤ r + 1
  nest : q.nest ≤ r
  ns : q.ns = true
  inh : ∀ x ∈ q.holes, x ∈ hs
  size : q.size + 1 ≤ 2 * q.holes.length
theorem Rnd.up {hs : List Nat} {r : Nat} {q : Req} (h : Rnd hs r q) : Rnd hs (r + 1) q := ⟨Nat.le_succ_of_le h.dep, Nat.le_succ_of_le h.nest, h.ns, h.inh, h.size⟩
theorem Rnd.two {hs : List Nat} {r : Nat} {a b : Req} (h : Rnd hs r a) (g : Rnd hs r b) : Rnd hs (r + 1) (.and a b) ∧ Rnd hs (r + 1) (.or a b) := by
  have h1 := h.dep; have h2 := h.nest; have h3 := h.size; have g1 := g.dep; have g2 := g.nest; have g3 := g.size
  have ns : (a.ns && b.ns) = true := by rw [h.ns, g.ns]; rfl
  have inh : ∀ x ∈ a.holes ++ b.holes, x ∈ hs := fun x hx => (List.mem_append.mp hx).elim (h.inh x) (g.inh x)
  have sz : a.size + b.size + 1 + 1 ≤ 2 * (a.holes ++ b.holes).length := by rw [List.length_append]; omega
  exact ⟨⟨by show max a.dep b.dep + 1 ≤ r + 1 + 1; omega, by show max a.nest b.nest + 1 ≤ r + 1; omega, ns, inh, sz⟩, ⟨by show max a.dep b.dep + 1 ≤ r + 1 + 1; omega, by show max a.nest b.nest + 1 ≤ r + 1; omega, ns, inh, sz⟩⟩
/-- requests put together two by two -/
inductive Pu : List Req → List Req → Prop
  | nil : Pu [] []
  | one (a : Req) : Pu [a] [a]
  | two (a b q : Req) (xs ys : List Req) : (q = .and a b ∨ q = .or a b) → Pu xs ys → Pu (a :: b :: xs) (q :: ys)
theorem pu_of : ∀ (rs ps : List Req), ps.length = rs.length / 2 → (∀ (i : Nat) q, ps[i]? = some q → ∃ a b, rs[2 * i]? = some a ∧ rs[2 * i + 1]? = some b ∧ (q = .and a b ∨ q = .or a b)) → Pu rs (ps ++ rs.drop (rs.length - rs.length % 2))
  | [], ps, hl, _ => by
    rw [List.eq_nil_of_length_eq_zero (show ps.length = 0 from hl)]; exact .nil
  | [a], ps, hl, _ => by
    rw [List.eq_nil_of_length_eq_zero (hl.trans (show 1 / 2 = 0 by decide))]
    show Pu [a] (List.drop (1 - 1 % 2) [a])
    rw [show 1 - 1 % 2 = 0 by decide]
    exact .one a
  | a :: b :: xs, ps, hl, h => by
    cases ps with
    | nil => exact absurd hl (by simp only [List.length_cons, List.length_nil]; omega)
    | cons q ps =>
      obtain ⟨a', b', e1, e2, hq⟩ := h 0 q rfl
      cases e1
      cases e2
      have hl2 : ps.length = xs.length / 2 := by simp only [List.length_cons] at hl; omega
      have ih := pu_of xs ps hl2 fun i q e => by
        obtain ⟨a', b', e1, e2, hq⟩ := h (i + 1) q e
        exact ⟨a', b', by rw [show 2 * (i + 1) = 2 * i + 1 + 1 by omega] at e1; exact e1, by rw [show 2 * (i + 1) + 1 = 2 * i + 1 + 1 + 1 by omega] at e2; exact e2, hq⟩
      have ed : (a :: b :: xs).drop ((a :: b :: xs).length - (a :: b :: xs).length % 2) = xs.drop (xs.length - xs.length % 2) := by
        have : (a :: b :: xs).length - (a :: b :: xs).length % 2 = xs.length - xs.length % 2 + 1 + 1 := by simp only [List.length_cons]; omega
        rw [this]; rfl
      rw [ed]
      exact .two a b q xs _ hq ih
def sumH (rs : List Req) : Nat := (rs.map fun q => q.holes.length).sum
theorem Pu.rnd {hs : List Nat} {r : Nat} {xs ys : List Req} (p : Pu xs ys) : (∀ q ∈ xs, Rnd hs r q) → (∀ q ∈ ys, Rnd hs (r + 1) q) ∧ sumH ys = sumH xs ∧ ys.length = (xs.length + 1) / 2 := by
  induction p with
  | nil => exact fun _ => ⟨fun q h => (nomatch h), rfl, rfl⟩
  | one a => exact fun h => ⟨fun q hq => by rw [List.mem_singleton.mp hq]; exact (h a List.mem_cons_self).up, rfl, by show 1 = (1 + 1) / 2; decide⟩
  | two a b q xs ys hq p ih =>
    intro h
    obtain ⟨i1, i2, i3⟩ := ih fun q hq => h q (List.mem_cons_of_mem _ (List.mem_cons_of_mem _ hq))
    have t := (h a List.mem_cons_self).two (h b (List.mem_cons_of_mem _ List.mem_cons_self))
    have eh : q.holes = a.holes ++ b.holes := by rcases hq with rfl | rfl <;> rfl
    refine ⟨fun z hz => ?_, ?_, ?_⟩
    · rcases List.mem_cons.mp hz with rfl | hz
      · rcases hq with rfl | rfl
        · exact t.1
        · exact t.2
      · exact i1 z hz
    · show q.holes.length + sumH ys = a.holes.length + (b.holes.length + sumH xs)
      rw [i2, eh, List.length_append]; omega
    · show ys.length + 1 = (xs.length + 1 + 1 + 1) / 2
      omega
def bnd : Nat → Nat
  | 0 => 30 | 1 => 15 | 2 => 8 | 3 => 4 | 4 => 2 | _ => 1
theorem bnd_step {r n : Nat} (h : n ≤ bnd r) (h5 : r ≤ 5) (h1 : 1 < n) : r + 1 ≤ 5 ∧ (n + 1) / 2 ≤ bnd (r + 1) ∧ n / 2 ≤ 15 := by
  match r, h, h5 with
  | 0, h, _ => have h : n ≤ 30 := h; exact ⟨by omega, by show _ ≤ 15; omega, by omega⟩
  | 1, h, _ => have h : n ≤ 15 := h; exact ⟨by omega, by show _ ≤ 8; omega, by omega⟩
  | 2, h, _ => have h : n ≤ 8 := h; exact ⟨by omega, by show _ ≤ 4; omega, by omega⟩
  | 3, h, _ => have h : n ≤ 4 := h; exact ⟨by omega, by show _ ≤ 2; omega, by omega⟩
  | 4, h, _ => have h : n ≤ 2 := h; exact ⟨by omega, by show _ ≤ 1; omega, by omega⟩
  | 5, h, _ => have h : n ≤ 1 := h; omega
theorem bnd_le (r : Nat) : bnd r ≤ 30 := by
  match r with
  | 0 => decide
  | 1 => decide
  | 2 => decide
  | 3 => decide
  | 4 => decide
  | r + 5 => show 1 ≤ 30; decide
theorem rg2 : ∀ n : Fin 31, Builtin.Range.small 0 ((n : Nat) - 1 : Int) 2 = true ∧ (n : Nat) ≠ 0 → Builtin.Range.rangeSize 0 ((n : Nat) - 1 : Int) 2 = (((n : Nat) / 2 : Nat) : Int) := by decide +kernel
theorem rg2s : ∀ n : Fin 31, Builtin.Range.small 0 ((n : Nat) - 1 : Int) 2 = true := by decide +kernel
theorem rgC2 {n : Nat} (h : n ≤ 30) (h0 : n ≠ 0) : RgC 0 ((n : Int) - 1) 2 (n / 2) := ⟨by decide, by decide, rg2s ⟨n, by omega⟩, rg2 ⟨n, by omega⟩ ⟨rg2s ⟨n, by omega⟩, h0⟩⟩
structure WideOk (hs : List Nat) (q : Req) : Prop where
  dep : q.dep ≤ 12
  nest : q.nest ≤ 5
  ns : q.ns = true
  inh : ∀ x ∈ q.holes, x ∈ hs
  size : q.size ≤ 60
  hl : q.holes.length ≤ 30
  h0 : 1 ≤ q.holes.length
def sp_law_wide (K : PySem.W.Frag) : Sp := BxG (α := List Nat) K 200 (fun hs ds => ∃ m : Int, ds = [.lst (natsD hs), .int m] ∧ 1 ≤ hs.length ∧ hs.length ≤ 1000 ∧ 1 ≤ m ∧ m ≤ 30) (fun hs r => ∃ q : Req, r = q.da ∧ WideOk hs q)
def t_law_wide (K : PySem.W.Frag) : TS := (tSeq (tAsg (tLc (iRng1 (tCons (tVar 2) tNil)) (gName 5) tYes (tTup (tCons (tOp (rIxL K) (tLst (tCons (tC (.str "open")) (tCons (tC (.str "closed")) tNil))) (tCall (sp_law_take K) [] E0 (tCons (tVar 0) (tCons (tC (.int 2)) tNil)))) (tCons (tOp (rIxL K) (tVar 1) (tCall (sp_law_take K) [] E0 (tCons (tVar 0) (tCons (tCB (rLenA K) (tCons (tVar 1) tNil)) tNil)))) tNil))) [5]) (gName 3))
  (tSeq (tWhile (tTest (tOp (rI0 fun i j => .bl (decide (j < i))) (tCB (rLenA K) (tCons (tVar 3) tNil)) (tC (.int 1)))) (tSeq (tAsg (tLc (iRng3 (tCons (tC (.int 0)) (tCons (tOp (rI0 fun i j => .int (i - j)) (tCB (rLenA K) (tCons (tVar 3) tNil)) (tC (.int 1))) (tCons (tC (.int 2)) tNil)))) (gName 5) tYes (tTup (tCons (tOp (rIxL K) (tLst (tCons (tC (.str "and")) (tCons (tC (.str "or")) tNil))) (tCall (sp_law_take K) [] E0 (tCons (tVar 0) (tCons (tC (.int 2)) tNil)))) (tCons (tOp (rIxL K) (tVar 3) (tVar 5)) (tCons (tOp (rIxL K) (tVar 3) (tOp (rI0 fun i j => .int (i + j)) (tVar 5) (tC (.int 1)))) tNil)))) [5]) (gName 4))
  (tAsg (tOp rCat (tVar 4) (tSl (rSlL K) (tVar 3) (tPart (tOp (rI0 fun i j => .int (i - j)) (tCB (rLenA K) (tCons (tVar 3) tNil)) (tOp (rI (fun _ j => 0 < j) fun i j => .int (i % j)) (tCB (rLenA K) (tCons (tVar 3) tNil)) (tC (.int 2))))) tNoPart)) (gName 3))))
  (tRet (tOp (rIxL K) (tVar 3) (tC (.int 0))))))
def N_law_wide : List Str := ["box", "holes", "many", "rows", "pairs", "k"]
def leafR (hs : List Nat) (q : Req) : Prop := Rnd hs 0 q ∧ q.holes.length = 1
theorem leaf_opn {hs : List Nat} {x : Nat} (h : x ∈ hs) : leafR hs (.opn x) ∧ leafR hs (.cls x) :=
  have i : ∀ y ∈ [x], y ∈ hs := fun y hy => by rw [List.mem_singleton.mp hy]; exact h
  ⟨⟨⟨Nat.le_refl _, Nat.le_refl _, rfl, i, Nat.le_refl _⟩, rfl⟩, ⟨⟨Nat.le_refl _, Nat.le_refl _, rfl, i, Nat.le_refl _⟩, rfl⟩⟩
/-- a leaf drawn -/
theorem eve_leaf {tb : TE} {hs : List Nat} {i n : Nat} (hi : δ[i]? = some (.box n)) (h : Evd K te δ (.lst (natsD hs))) (hb : Evd K te (bmp 1 δ) (.lst (natsD hs))) (hn : n + 2 ≤ 1000000) (h1 : 1 ≤ hs.length) (h2 : hs.length ≤ 1000) :
    Eve K (tTup (tCons (tOp (rIxL K) (tLst (tCons (tC (.str "open")) (tCons (tC (.str "closed")) tNil))) (tCall (sp_law_take K) [] E0 (tCons (tVar i) (tCons (tC (.int 2)) tNil)))) (tCons (tOp (rIxL K) te (tCall (sp_law_take K) [] E0 (tCons (tVar i) (tCons (tCB (rLenA K) (tCons te tNil)) tNil)))) tNil))) δ 2 (fun r => ∃ q : Req, r = q.da ∧ leafR hs q) := by
  have hi2 : (bmp 1 δ)[i]? = some (.box (n + 1)) := by rw [bmp_get, hi]; rfl
  refine (eve_tup (P := fun r => ∃ q : Req, r = q.da ∧ leafR hs q) (eveA_two (eve_word2 hi (by omega)) (eve_hole (tb := te) hi2 hb (by omega) h1 h2)) ?_).le (by decide)
  rintro _ ⟨_, _, rfl, hw, x, hx, rfl⟩
  rcases hw with rfl | rfl
  · exact ⟨Nat.le_add_left 2 99998, .opn x, rfl, (leaf_opn hx).1⟩
  · exact ⟨Nat.le_add_left 2 99998, .cls x, rfl, (leaf_opn hx).2⟩
theorem sum_ones {rs : List Req} (h : ∀ q ∈ rs, q.holes.length = 1) : sumH rs = rs.length := by
  induction rs with
  | nil => rfl
  | cons q rs ih =>
    show q.holes.length + sumH rs = rs.length + 1
    rw [h q List.mem_cons_self, ih fun z hz => h z (List.mem_cons_of_mem _ hz)]; omega
theorem cut_to {ds : List Da} {n : Nat} (h : n ≤ ds.length) : cutD ds (some (n : Int)) none = ds.drop n := by
  unfold cutD
  rw [HT.sIx_nat, Nat.min_eq_left h]
  exact List.take_of_length_le (by rw [List.length_drop]; exact Nat.le_refl _)
theorem pure_law_wide (h : sp_law_wide K vs H Q E) : t_law_wide K { nx := fun _ H' => Q .non H', rt := Q } (L2.start N_law_wide vs) H := by
  refine bxg_body h (fun x ds ⟨_, e, _⟩ => by rw [e]; exact Nat.le_add_left 3 3) ?_
  rintro n hs _ hn ⟨m, rfl, h1, h2, m1, m2⟩
  have hn : n + 200 ≤ 1000000 := hn
  refine std_seq (std_asgE (c := 60) (P := fun d => ∃ rs : List Req, d = .lst (rs.map Req.da) ∧ rs.length = m.toNat ∧ ∀ q ∈ rs, leafR hs q) ((EveO.frz (eveo_lc (c := 2) (js := [5]) (P := fun _ r => ∃ q : Req, r = q.da ∧ leafR hs q) (src_rng1 (n := m) (eva_cons (evd_var rfl) eva_nil) (by omega) (by omega)) (fun j h => h) (by rw [irng_len]; omega) ?_)).imp (by rw [irng_len]; omega) ?_) ?_)
  · rintro i d e
    obtain ⟨hi, rfl⟩ := irng_at e
    exact ⟨_, tg_name, eve_leaf (tb := tVar 0) (n := n + i * 2) rfl (evd_var rfl) (evd_var rfl) (by omega) h1 h2⟩
  · rintro _ ⟨rs, rfl, hl, hP⟩
    obtain ⟨qs, rfl, hq⟩ := lift_list (mk := Req.da) (p := leafR hs) hP
    rw [List.length_map, irng_len] at hl
    exact ⟨qs, rfl, hl, hq⟩
  rintro _ ⟨rs, rfl, hl, hq⟩
  refine std_seq (std_while (fun k δ => ∃ (r b : Nat) (rs : List Req) (e4 : En), k = rs.length ∧ r ≤ 5 ∧ rs.length ≤ bnd r ∧ 1 ≤ rs.length ∧ b ≤ n + 60 + 15 * r ∧ sumH rs = m.toNat ∧ (∀ q ∈ rs, Rnd hs r q) ∧ δ = [.box b, .rep (.lst (natsD hs)), .rep (.int m), .rep (.lst (rs.map Req.da)), e4, .any]) rs.length ⟨0, n + 60, rs, .any, rfl, by omega, by show _ ≤ 30; omega, by omega, by omega, by rw [sum_ones (fun q hq' => (hq q hq').2), hl], fun q hq' => (hq q hq').1, rfl⟩ ?_)
  rintro k δ1 ⟨r, b, rs, e4, rfl, h5, hb, hp, hbx, hsum, hr, rfl⟩
  have b30 := bnd_le r
  refine ⟨decide (1 < (rs.length : Int)), Tvd.is (tvd_test (evd_op (evd_cb (eva_cons (evd_var rfl) eva_nil) opn_lenL) evd_int op2_B0)) (by rw [List.length_map]), fun e => ?_, fun e => ?_⟩
  · have e1 : 1 < rs.length := by have := of_decide_eq_true e; omega
    obtain ⟨r5, bn, l15⟩ := bnd_step hb h5 e1
    have lenE : ∀ (δ' : List En), δ'[3]? = some (.rep (.lst (rs.map Req.da))) → Evd K (tCB (rLenA K) (tCons (tVar 3) tNil)) δ' (.int (rs.length : Int)) := fun δ' h => Evd.is (evd_cb (eva_cons (evd_var h) eva_nil) opn_lenL) (by rw [List.length_map])
    refine std_seq (std_asgE (c := 15) (P := fun d => ∃ ps : List Req, d = .lst (ps.map Req.da) ∧ ps.length = rs.length / 2 ∧ ∀ (i : Nat) q, ps[i]? = some q → ∃ a b, rs[2 * i]? = some a ∧ rs[2 * i + 1]? = some b ∧ (q = .and a b ∨ q = .or a b)) ((EveO.frz (eveo_lc (c := 1) (js := [5]) (P := fun i r => ∃ q : Req, r = q.da ∧ ∃ a b, rs[2 * i]? = some a ∧ rs[2 * i + 1]? = some b ∧ (q = .and a b ∨ q = .or a b)) (src_rng3 (eva_cons evd_int (eva_cons (evd_op (lenE _ rfl) evd_int (op2_I0 (g := fun i j => i - j))) (eva_cons evd_int eva_nil))) (rgC2 (by omega) (by omega))) (fun j h => h) (by rw [srng_len]; omega) ?_)).imp (by rw [srng_len]; omega) ?_) ?_)
    · rintro i d ed
      obtain ⟨hi, rfl⟩ := srng_at ed
      have g1 : 2 * i < rs.length := by omega
      have g2 : 2 * i + 1 < rs.length := by omega
      have f1 : (rs.map Req.da)[2 * i]? = some rs[2 * i].da := by rw [List.getElem?_map, List.getElem?_eq_getElem g1]; rfl
      have f2 : (rs.map Req.da)[2 * i + 1]? = some rs[2 * i + 1].da := by rw [List.getElem?_map, List.getElem?_eq_getElem g2]; rfl
      refine ⟨_, tg_name, (eve_tup (c := 1 + (0 + (0 + 0))) (P := fun r => ∃ q : Req, r = q.da ∧ ∃ a b, rs[2 * i]? = some a ∧ rs[2 * i + 1]? = some b ∧ (q = .and a b ∨ q = .or a b)) (eveA_cons (eve_word2 (n := b + i * 1) rfl (by omega)) fun _ => eveA_cons (evd_op (d := rs[2 * i].da) (evd_var rfl) (evd_var rfl) (op2_ixL ?_)).eve fun _ => eveA_cons (evd_op (d := rs[2 * i + 1].da) (evd_var rfl) (evd_op (evd_var rfl) evd_int (op2_I0 (g := fun i j => i + j))) (op2_ixL ?_)).eve fun _ => eveA_nil) ?_).le (by decide)⟩
      · have := atI_nat f1
        rwa [show ((2 * i : Nat) : Int) = 0 + (i : Int) * 2 by omega] at this
      · have := atI_nat f2
        rwa [show ((2 * i + 1 : Nat) : Int) = 0 + (i : Int) * 2 + 1 by omega] at this
      · rintro _ ⟨_, _, rfl, hw, _, _, rfl, rfl, _, _, rfl, rfl, rfl⟩
        rcases hw with rfl | rfl
        · exact ⟨Nat.le_add_left 3 99997, .and rs[2 * i] rs[2 * i + 1], rfl, _, _, List.getElem?_eq_getElem g1, List.getElem?_eq_getElem g2, .inl rfl⟩
        · exact ⟨Nat.le_add_left 3 99997, .or rs[2 * i] rs[2 * i + 1], rfl, _, _, List.getElem?_eq_getElem g1, List.getElem?_eq_getElem g2, .inr rfl⟩
    · rintro _ ⟨rs', rfl, hl', hP⟩
      obtain ⟨ps, rfl, hps⟩ := lift_listI (mk := Req.da) (p := fun i q => ∃ a b, rs[2 * i]? = some a ∧ rs[2 * i + 1]? = some b ∧ (q = .and a b ∨ q = .or a b)) 0 (fun i r e => by rw [Nat.zero_add]; exact hP i r e)
      rw [List.length_map, srng_len] at hl'
      exact ⟨ps, rfl, hl', fun i q e => by have := hps i q e; rwa [Nat.zero_add] at this⟩
    rintro _ ⟨ps, rfl, hpl, hpp⟩
    obtain ⟨n1, n2, n3⟩ := (pu_of rs ps hpl hpp).rnd hr
    have hc : ((rs.length : Int) - (rs.length : Int) % 2) = ((rs.length - rs.length % 2 : Nat) : Int) := by omega
    refine std_asg (d := .lst ((ps ++ rs.drop (rs.length - rs.length % 2)).map Req.da)) (Evd.is (evo_op (evd_var rfl) (evo_slL (lo := some ((rs.length - rs.length % 2 : Nat) : Int)) (hi := none) (evd_var rfl) (ovd_some (Evd.is (evd_op (lenE _ rfl) (evd_op (lenE _ rfl) evd_int (op2_I (C := fun _ j => 0 < j) (g := fun i j => i % j) (by decide))) (op2_I0 (g := fun i j => i - j))) (congrArg Da.int hc))) ovd_none).frz (op2o_cat ?_)).frz ?_) ?_
    · rw [cut_to (by rw [List.length_map]; omega), List.length_drop, List.length_map, List.length_map]; omega
    · rw [cut_to (by rw [List.length_map]; omega), List.map_append, List.map_drop]
    · exact ⟨(ps ++ rs.drop (rs.length - rs.length % 2)).length, by rw [n3]; omega, r + 1, b + 15, _, _, rfl, r5, by rw [n3]; exact bn, by rw [n3]; omega, by omega, by rw [n2, hsum], n1, rfl⟩
  · have e1 : rs.length = 1 := by have := of_decide_eq_false e; omega
    match rs, e1, hr, hsum with
    | [q], _, hr, hsum =>
      have rq := hr q List.mem_cons_self
      have r1 := rq.dep; have r2 := rq.nest; have r3 := rq.size
      have hsum : q.holes.length + 0 = m.toNat := hsum
      exact std_ret (evd_op (evd_var rfl) evd_int (op2_ixL (d := q.da) (atI_nat (j := 0) rfl))) ⟨⟨q, rfl, ⟨by omega, by omega, rq.ns, rq.inh, by omega, by omega, by omega⟩⟩, b, by show b ≤ n + 200; omega, rfl⟩
structure DeepOk (hs : List Nat) (q : Req) : Prop where
  dep : q.dep ≤ 12
  ns : q.ns = true
  inh : ∀ x ∈ q.holes, x ∈ hs
  size : q.size ≤ 60
def sp_law_deep (K : PySem.W.Frag) : Sp := BxG (α := List Nat) K 40 (fun hs ds => ds = [.lst (natsD hs)] ∧ 1 ≤ hs.length ∧ hs.length ≤ 1000) (fun hs r => ∃ q : Req, r = q.da ∧ DeepOk hs q)
def t_law_deep (K : PySem.W.Frag) : TS := (tSeq (tAsg (tTup (tCons (tOp (rIxL K) (tLst (tCons (tC (.str "open")) (tCons (tC (.str "closed")) tNil))) (tCall (sp_law_take K) [] E0 (tCons (tVar 0) (tCons (tC (.int 2)) tNil)))) (tCons (tOp (rIxL K) (tVar 1) (tC (.int 0))) tNil))) (gName 2))
  (tSeq (tFor (iRng1 (tCons (tC (.int 11)) tNil)) (gName 3) (tSeq (tAsg (tTup (tCons (tOp (rIxL K) (tLst (tCons (tC (.str "open")) (tCons (tC (.str "closed")) tNil))) (tCall (sp_law_take K) [] E0 (tCons (tVar 0) (tCons (tC (.int 2)) tNil)))) (tCons (tOp (rIxL K) (tVar 1) (tCall (sp_law_take K) [] E0 (tCons (tVar 0) (tCons (tCB (rLenA K) (tCons (tVar 1) tNil)) tNil)))) tNil))) (gName 4))
  (tSeq (tAsg (tLst (tCons (tTup (tCons (tC (.str "not")) (tCons (tVar 2) tNil))) (tCons (tTup (tCons (tC (.str "and")) (tCons (tVar 2) (tCons (tVar 4) tNil)))) (tCons (tTup (tCons (tC (.str "or")) (tCons (tVar 4) (tCons (tVar 2) tNil)))) tNil)))) (gName 5))
  (tAsg (tOp (rIxL K) (tVar 5) (tCall (sp_law_take K) [] E0 (tCons (tVar 0) (tCons (tC (.int 3)) tNil)))) (gName 2)))))
  (tRet (tVar 2))))
def N_law_deep : List Str := ["box", "holes", "found", "turn", "leaf", "some"]
theorem pure_law_deep (h : sp_law_deep K vs H Q E) : t_law_deep K { nx := fun _ H' => Q .non H', rt := Q } (L2.start N_law_deep vs) H := by
  refine bxg_body h (fun x ds ⟨e, _⟩ => by rw [e]; exact Nat.le_add_left 2 4) ?_
  rintro n hs _ hn ⟨rfl, h1, h2⟩
  have hn : n + 40 ≤ 1000000 := hn
  refine std_seq (std_asgE (c := 1) (P := fun r => ∃ q : Req, r = q.da ∧ leafR hs q) ((eve_tup (c := 1 + (0 + 0)) (eveA_cons (eve_word2 (n := n) rfl (by omega)) fun _ => eveA_cons (evd_op (d := .int ((hs[0]'h1 : Nat) : Int)) (evd_var (d := .lst (natsD hs)) rfl) evd_int (op2_ixL (atI_nat (j := 0) ?_))).eve fun _ => eveA_nil) ?_).le (by decide)) ?_)
  · unfold natsD; rw [List.getElem?_map, List.getElem?_eq_getElem h1]; rfl
  · rintro _ ⟨_, _, rfl, hw, _, _, rfl, rfl, rfl⟩
    rcases hw with rfl | rfl
    · exact ⟨Nat.le_add_left 2 99998, .opn _, rfl, (leaf_opn (List.getElem_mem h1)).1⟩
    · exact ⟨Nat.le_add_left 2 99998, .cls _, rfl, (leaf_opn (List.getElem_mem h1)).2⟩
  rintro _ ⟨q, rfl, hq⟩
  refine std_seq (std_for (js := [3]) (src_rng1 (n := 11) (eva_cons evd_int eva_nil) (by decide) (by decide)) (fun i δ => ∃ (b : Nat) (q : Req) (e3 e4 e5 : En), b ≤ n + 1 + 3 * i ∧ q.dep ≤ i + 1 ∧ q.size ≤ 1 + 2 * i ∧ q.ns = true ∧ (∀ x ∈ q.holes, x ∈ hs) ∧ δ = [.box b, .rep (.lst (natsD hs)), .rep q.da, e3, e4, e5]) ⟨n + 1, q, .any, .any, .any, by omega, hq.1.dep, by have := hq.1.size; have := hq.2; omega, hq.1.ns, hq.1.inh, rfl⟩ ?_ ?_)
  · rintro i d δ1 e ⟨b, q, e3, e4, e5, hb, hd, hs', hns, hin, rfl⟩
    obtain ⟨hi, rfl⟩ := irng_at e
    have hi : i < 11 := hi
    refine ⟨_, tg_name, std_seq (std_asgE (c := 2) (eve_leaf (tb := tVar 0) (n := b) rfl (evd_var rfl) (evd_var rfl) (by omega) h1 h2) ?_)⟩
    rintro _ ⟨p, rfl, hp⟩
    have p1 := hp.1.dep; have p2 := hp.1.size; have p3 := hp.2
    refine std_seq (std_asg (d := .lst [(Req.not q).da, (Req.and q p).da, (Req.or p q).da]) (evo_lst (eva_cons (evd_tup (eva_cons evd_str (eva_cons (evd_var rfl) eva_nil)) (Nat.le_add_left 2 99998)) (eva_cons (evd_tup (eva_cons evd_str (eva_cons (evd_var rfl) (eva_cons (evd_var rfl) eva_nil))) (Nat.le_add_left 3 99997)) (eva_cons (evd_tup (eva_cons evd_str (eva_cons (evd_var rfl) (eva_cons (evd_var rfl) eva_nil))) (Nat.le_add_left 3 99997)) eva_nil))) (Nat.le_add_left 3 99997)).frz ?_)
    refine std_asgE (c := 1) (eve_ixL (ds := [(Req.not q).da, (Req.and q p).da, (Req.or p q).da]) (evd_var rfl) (take_ev (n := b + 2) (m := 3) rfl evd_int (by omega) (by decide) (by decide))) ?_
    rintro d hd'
    have hh : ∃ z : Req, d = z.da ∧ z.dep ≤ i + 1 + 1 ∧ z.size ≤ 1 + 2 * (i + 1) ∧ z.ns = true ∧ ∀ x ∈ z.holes, x ∈ hs := by
      rcases List.mem_cons.mp hd' with rfl | hd'
      · exact ⟨_, rfl, by show q.dep + 1 ≤ _; omega, by show q.size + 1 ≤ _; omega, hns, hin⟩
      rcases List.mem_cons.mp hd' with rfl | hd'
      · exact ⟨_, rfl, by show max q.dep p.dep + 1 ≤ _; omega, by show q.size + p.size + 1 ≤ _; omega, by show (q.ns && p.ns) = true; rw [hns, hp.1.ns]; rfl, fun x hx => (List.mem_append.mp hx).elim (hin x) (hp.1.inh x)⟩
      rw [List.mem_singleton.mp hd']
      exact ⟨_, rfl, by show max p.dep q.dep + 1 ≤ _; omega, by show p.size + q.size + 1 ≤ _; omega, by show (p.ns && q.ns) = true; rw [hns, hp.1.ns]; rfl, fun x hx => (List.mem_append.mp hx).elim (hp.1.inh x) (hin x)⟩
    obtain ⟨z, rfl, z1, z2, z3, z4⟩ := hh
    exact ⟨b + 2 + 1, z, _, _, _, by omega, z1, z2, z3, z4, rfl⟩
  · rintro δ1 ⟨b, q, e3, e4, e5, hb, hd, hs', hns, hin, rfl⟩
    rw [irng_len] at hb hd hs'
    have hb : b ≤ n + 1 + 3 * 11 := hb
    have hd : q.dep ≤ 11 + 1 := hd
    have hs' : q.size ≤ 1 + 2 * 11 := hs'
    exact std_ret (evd_var rfl) ⟨⟨q, rfl, ⟨by omega, hns, hin, by omega⟩⟩, b, by show b ≤ n + 40; omega, rfl⟩
/-- one leaf changed -/
structure Chg (x : Req × List Nat) (p : Req) : Prop where
  dep : p.dep = x.1.dep
  size : p.size = x.1.size
  ns : p.ns = true
  inh : ∀ h ∈ p.holes, h ∈ x.2
def sp_law_changed (K : PySem.W.Frag) (n : Nat) : Sp := BxG (α := Req × List Nat) K (n + 2) (fun x ds => ds = [x.1.da, .lst (natsD x.2)] ∧ x.1.dep < n ∧ x.1.ns = true ∧ (∀ h ∈ x.1.holes, h ∈ x.2) ∧ 1 ≤ x.2.length ∧ x.2.length ≤ 1000)
  (fun x r => ∃ p : Req, r = p.da ∧ Chg x p)
def t_law_changed (K : PySem.W.Frag) (n : Nat) : TS := (tSeq (tIfS (tAnd (tTest (tOp rEq (tCB (rLenA K) (tCons (tVar 1) tNil)) (tC (.int 2)))) (tNot (tB (tCB (rIsi K) (tCons (tOp (rIxT K) (tVar 1) (tC (.int 1))) (tCons (tC (.ty "tuple")) tNil)))))) (tRet (tTup (tCons (tOp (rIxL K) (tLst (tCons (tC (.str "open")) (tCons (tC (.str "closed")) tNil))) (tCall (sp_law_take K) [] E0 (tCons (tVar 0) (tCons (tC (.int 2)) tNil)))) (tCons (tOp (rIxL K) (tVar 2) (tCall (sp_law_take K) [] E0 (tCons (tVar 0) (tCons (tCB (rLenA K) (tCons (tVar 2) tNil)) tNil)))) tNil)))) tNext)
  (tSeq (tAsg (tOp (rI0 fun i j => .int (i + j)) (tC (.int 1)) (tCall (sp_law_take K) [] E0 (tCons (tVar 0) (tCons (tOp (rI0 fun i j => .int (i - j)) (tCB (rLenA K) (tCons (tVar 1) tNil)) (tC (.int 1))) tNil)))) (gName 3))
  (tRet (tOp (rCatT K) (tOp (rCatT K) (tSl (rSlT K) (tVar 1) tNoPart (tPart (tVar 3))) (tTup (tCons (tCall (sp_law_changed K n) [] E0 (tCons (tVar 0) (tCons (tOp (rIxT K) (tVar 1) (tVar 3)) (tCons (tVar 2) tNil)))) tNil))) (tSl (rSlT K) (tVar 1) (tPart (tOp (rI0 fun i j => .int (i + j)) (tVar 3) (tC (.int 1)))) tNoPart)))))
def N_law_changed : List Str := ["box", "request", "holes", "at"]
theorem cutD_nat {ds : List Da} {lo hi : Nat} (h : lo ≤ ds.length) (h2 : hi ≤ ds.length) : cutD ds (some (lo : Int)) (some (hi : Int)) = (ds.drop lo).take (hi - lo) := by
  unfold cutD
  rw [HT.sIx_nat, HT.sIx_nat, Nat.min_eq_left h, Nat.min_eq_left h2]
theorem cutD_hi {ds : List Da} {hi : Nat} (h2 : hi ≤ ds.length) : cutD ds none (some (hi : Int)) = ds.take hi := by
  unfold cutD
  rw [HT.sIx_nat, Nat.min_eq_left h2]; rfl
theorem pure_law_changed {n0 : Nat} (h : sp_law_changed K (n0 + 1) vs H Q E) : t_law_changed K n0 { nx := fun _ H' => Q .non H', rt := Q } (L2.start N_law_changed vs) H := by
  refine bxg_body h (fun x ds ⟨e, _⟩ => by rw [e]; exact Nat.le_add_left 3 1) ?_
  rintro n ⟨q, hs⟩ _ hn ⟨rfl, hd, hns, hin, h1, h2⟩
  dsimp only at hd hns hin h1 h2
  have hn : n + (n0 + 1 + 2) ≤ 1000000 := hn
  have leaf : ∀ (q : Req), q.leaf = true → Std K (t_law_changed K n0) (envOf N_law_changed (.box n :: [q.da, .lst (natsD hs)].map .rep)) { nx := fun _ => False, rt := fun d δ' => (∃ p : Req, d = p.da ∧ Chg (q, hs) p) ∧ ∃ m, m ≤ n + (n0 + 1 + 2) ∧ δ'[0]? = some (.box m) } := fun q hl => by
    refine std_seq (std_if (b := true) (Tvd.is (tvd_and (a := true) (b := true) (Tvd.is (tvd_test (evd_op (evd_len_req rfl) evd_int op2_eqI)) ?_) fun _ => Tvd.is (tvd_not (tvd_B (b := false) ?_)) rfl) rfl) (fun _ => ?_) fun e => nomatch e)
    · cases q <;> first | (cases hl; done) | rfl
    · cases q with
      | opn x => exact evd_isiN false "int" (evd_op (evd_var rfl) evd_int (op2_ixT (d := .int (x : Int)) (atI_nat (j := 1) rfl)))
      | cls x => exact evd_isiN false "int" (evd_op (evd_var rfl) evd_int (op2_ixT (d := .int (x : Int)) (atI_nat (j := 1) rfl)))
      | all => cases hl
      | non => cases hl
      | not a => cases hl
      | and a b => cases hl
      | or a b => cases hl
    · refine std_retE (c := 2) (eve_leaf (tb := tVar 0) (n := n) rfl (evd_var rfl) (evd_var rfl) (by omega) h1 h2) ?_
      rintro _ ⟨p, rfl, hp⟩
      have p1 := hp.1.dep; have p2 := hp.1.size; have p3 := hp.2; have p4 := req_dep_pos p
      have q1 : q.dep = 1 := by cases q <;> first | (cases hl; done) | rfl
      have q2 : q.size = 1 := by cases q <;> first | (cases hl; done) | rfl
      have p5 : 1 ≤ p.size := by cases p <;> exact Nat.le_add_left 1 _
      exact ⟨⟨p, rfl, ⟨by show p.dep = q.dep; omega, by show p.size = q.size; omega, hp.1.ns, hp.1.inh⟩⟩, n + 2, by omega, rfl⟩
  -- a part of the tail is changed
  have inner : ∀ (w : Str) (qs : List Req) (q : Req) (mk : List Req → Req), q.da = .tup (.str w :: qs.map Req.da) → 1 ≤ qs.length → qs.length ≤ 2 → (∀ p ∈ qs, p.dep < n0 ∧ p.ns = true ∧ ∀ h ∈ p.holes, h ∈ hs) →
      (∀ ps : List Req, ps.length = qs.length → (mk ps).da = .tup (.str w :: ps.map Req.da)) → (∀ (i : Nat) (p : Req) (hi : i < qs.length), Chg (qs[i], hs) p → Chg (q, hs) (mk (qs.set i p))) →
      Std K (t_law_changed K n0) (envOf N_law_changed (.box n :: [q.da, .lst (natsD hs)].map .rep)) { nx := fun _ => False, rt := fun d δ' => (∃ p : Req, d = p.da ∧ Chg (q, hs) p) ∧ ∃ m, m ≤ n + (n0 + 1 + 2) ∧ δ'[0]? = some (.box m) } := fun w qs q mk eq l1 l2 hq hmk hch => by
    rw [eq]
    have lenE : ∀ (δ' : List En), δ'[1]? = some (.rep (.tup (.str w :: qs.map Req.da))) → Evd K (tCB (rLenA K) (tCons (tVar 1) tNil)) δ' (.int ((qs.length + 1 : Nat) : Int)) := fun δ' h => Evd.is (evd_cb (eva_cons (evd_var h) eva_nil) opn_lenT) (by rw [List.length_cons, List.length_map])
    refine std_seq (std_if (b := false) (Tvd.is (tvd_and (b := false) (tvd_test (evd_op (lenE _ rfl) evd_int op2_eqI)) fun _ => Tvd.is (tvd_not (tvd_B (b := true) ?_)) rfl) (Bool.and_false _)) (fun e => nomatch e) fun _ => std_next ?_)
    · match qs, l1 with
      | a :: qs, _ =>
        have z : Evd K (tOp (rIxT K) (tVar 1) (tC (.int 1))) (envOf N_law_changed (.box n :: [Da.tup (.str w :: (a :: qs).map Req.da), .lst (natsD hs)].map .rep)) a.da := evd_op (evd_var rfl) evd_int (op2_ixT (d := a.da) (atI_nat (j := 1) rfl))
        rw [Req.da_eq a] at z
        exact evd_isiN true "tuple" z
    refine std_seq (std_asgE (c := 0 + 1) (P := fun d => ∃ i : Nat, d = .int ((i + 1 : Nat) : Int) ∧ i < qs.length) (eve_op (c1 := 0) evd_int.eve (take_ev (n := n + 0) (m := (qs.length : Int)) rfl (Evd.is (evd_op (lenE _ rfl) evd_int (op2_I0 (g := fun i j => i - j))) (congrArg Da.int (by show ((qs.length + 1 : Nat) : Int) - 1 = _; omega))) (by omega) (by omega) (by omega)) ?_) ?_)
    · rintro _ _ rfl ⟨x, rfl, x0, x1⟩
      exact ⟨_, op2_I0 (g := fun i j => i + j), x.toNat, congrArg Da.int (by show (1 : Int) + x = _; omega), by omega⟩
    rintro _ ⟨i, rfl, hi⟩
    obtain ⟨g1, g2, g3⟩ := hq qs[i] (List.getElem_mem hi)
    have il : i + 1 < (Da.str w :: qs.map Req.da).length := by rw [List.length_cons, List.length_map]; omega
    have ix : (Da.str w :: qs.map Req.da)[i + 1]? = some qs[i].da := by
      show (qs.map Req.da)[i]? = _
      rw [List.getElem?_map, List.getElem?_eq_getElem hi]; rfl
    refine std_retE (c := 0 + (n0 + 2) + 0) (P := fun r => ∃ p : Req, r = .tup (.str w :: (qs.set i p).map Req.da) ∧ Chg (qs[i], hs) p) (eve_op (P1 := fun r => ∃ p : Req, r = .tup ((Da.str w :: qs.map Req.da).take (i + 1) ++ [p.da]) ∧ Chg (qs[i], hs) p) (eve_op (c1 := 0) (c2 := n0 + 2) (P1 := fun r => r = .tup ((Da.str w :: qs.map Req.da).take (i + 1))) (P2 := fun r => ∃ p : Req, r = .tup [p.da] ∧ Chg (qs[i], hs) p) (Evd.is (evd_slT (ds := .str w :: qs.map Req.da) (lo := none) (hi := some ((i + 1 : Nat) : Int)) (evd_var rfl) ovd_none (ovd_some (evd_var rfl)) ?w1) (congrArg Da.tup (cutD_hi (Nat.le_of_lt il)))).eve (eve_tup (eveA_one (eve_callG (n := n + 1 + 0) (c := n0 + 2) (qs[i], hs) rfl (eva_cons (evd_op (evd_var rfl) (evd_var rfl) (op2_ixT (d := qs[i].da) (atI_nat (j := i + 1) ix))) (eva_cons (evd_var rfl) eva_nil)) (by omega) ⟨rfl, g1, g2, g3, h1, h2⟩)) ?_) ?_) (Evd.is (evd_slT (ds := .str w :: qs.map Req.da) (lo := some ((i + 1 + 1 : Nat) : Int)) (hi := none) (evd_var rfl) (ovd_some (evd_op (evd_var (d := .int ((i + 1 : Nat) : Int)) rfl) evd_int (op2_I0 (g := fun i j => i + j)))) ovd_none ?w2) (congrArg Da.tup (cut_to (Nat.succ_le_of_lt il)))).eve ?_) ?_
    case w1 => exact fun z => by have := z.2; rw [HT.sIx_nat, Nat.min_eq_left (Nat.le_of_lt il)] at this; omega
    case w2 => exact fun z => by have := z.1; rw [HT.sIx_nat, Nat.min_eq_left (Nat.succ_le_of_lt il)] at this; omega
    · rintro _ ⟨_, rfl, p, rfl, hp⟩
      exact ⟨Nat.le_add_left 1 99999, p, rfl, hp⟩
    · rintro _ _ rfl ⟨p, rfl, hp⟩
      refine ⟨_, op2_catT (fun z => ?_) (by rw [List.length_take]; show _ + 1 ≤ 100000; omega), p, rfl, hp⟩
      cases z
    · rintro _ _ ⟨p, rfl, hp⟩ rfl
      refine ⟨_, op2_catT (fun z => ?_) (by rw [List.length_append, List.length_take, List.length_drop, List.length_cons, List.length_map]; show min (i + 1) (qs.length + 1) + 1 + _ ≤ 100000; omega), p, ?_, hp⟩
      · cases z
      · congr 1
        show Da.str w :: ((qs.map Req.da).take i) ++ [p.da] ++ (qs.map Req.da).drop (i + 1) = _
        rw [List.set_eq_take_append_cons_drop, if_pos hi, List.map_append, List.map_cons, List.map_take, List.map_drop]
        simp
    · rintro _ ⟨p, rfl, hp⟩
      exact ⟨⟨mk (qs.set i p), (hmk _ (List.length_set)).symm, hch i p hi hp⟩, _, by show n + (0 + 1) + (0 + (n0 + 2) + 0) ≤ _; omega, rfl⟩
  cases q with
  | opn x => exact leaf _ rfl
  | cls x => exact leaf _ rfl
  | all => cases hns
  | non => cases hns
  | not a =>
    have hd : a.dep + 1 < n0 + 1 := hd
    refine inner "not" [a] (.not a) (fun ps => match ps with | [x] => .not x | _ => .all) rfl (Nat.le_refl 1) (Nat.le_of_ble_eq_true rfl) (fun p hp => ?_) (fun ps hps => ?_) (fun i p hi hp => ?_)
    · rw [List.mem_singleton.mp hp]; exact ⟨by omega, hns, hin⟩
    · match ps, hps with
      | [x], _ => rfl
    · match i, hi, hp with
      | 0, _, hp => exact ⟨congrArg (· + 1) hp.dep, congrArg (· + 1) hp.size, hp.ns, hp.inh⟩
  | and a b =>
    have hd : max a.dep b.dep + 1 < n0 + 1 := hd
    have ns2 := Bool.and_eq_true_iff.mp (show (a.ns && b.ns) = true from hns)
    have ha : ∀ x ∈ a.holes, x ∈ hs := fun x hx => hin x (List.mem_append_left _ hx)
    have hb : ∀ x ∈ b.holes, x ∈ hs := fun x hx => hin x (List.mem_append_right _ hx)
    refine inner "and" [a, b] (.and a b) (fun ps => match ps with | [x, y] => .and x y | _ => .all) rfl (Nat.le_of_ble_eq_true rfl) (Nat.le_refl 2) (fun p hp => ?_) (fun ps hps => ?_) (fun i p hi hp => ?_)
    · rcases List.mem_cons.mp hp with rfl | hp
      · exact ⟨by omega, ns2.1, ha⟩
      · rw [List.mem_singleton.mp hp]; exact ⟨by omega, ns2.2, hb⟩
    · match ps, hps with
      | [x, y], _ => rfl
    · match i, hi, hp with
      | 0, _, hp =>
        have d1 : p.dep = a.dep := hp.dep
        have d2 : p.size = a.size := hp.size
        exact ⟨by show max p.dep b.dep + 1 = max a.dep b.dep + 1; rw [d1], by show p.size + b.size + 1 = a.size + b.size + 1; rw [d2], by show (p.ns && b.ns) = true; rw [hp.ns, ns2.2]; rfl, fun x hx => (List.mem_append.mp hx).elim (hp.inh x) (hb x)⟩
      | 1, _, hp =>
        have d1 : p.dep = b.dep := hp.dep
        have d2 : p.size = b.size := hp.size
        exact ⟨by show max a.dep p.dep + 1 = max a.dep b.dep + 1; rw [d1], by show a.size + p.size + 1 = a.size + b.size + 1; rw [d2], by show (a.ns && p.ns) = true; rw [hp.ns, ns2.1]; rfl, fun x hx => (List.mem_append.mp hx).elim (ha x) (hp.inh x)⟩
  | or a b =>
    have hd : max a.dep b.dep + 1 < n0 + 1 := hd
    have ns2 := Bool.and_eq_true_iff.mp (show (a.ns && b.ns) = true from hns)
    have ha : ∀ x ∈ a.holes, x ∈ hs := fun x hx => hin x (List.mem_append_left _ hx)
    have hb : ∀ x ∈ b.holes, x ∈ hs := fun x hx => hin x (List.mem_append_right _ hx)
    refine inner "or" [a, b] (.or a b) (fun ps => match ps with | [x, y] => .or x y | _ => .all) rfl (Nat.le_of_ble_eq_true rfl) (Nat.le_refl 2) (fun p hp => ?_) (fun ps hps => ?_) (fun i p hi hp => ?_)
    · rcases List.mem_cons.mp hp with rfl | hp
      · exact ⟨by omega, ns2.1, ha⟩
      · rw [List.mem_singleton.mp hp]; exact ⟨by omega, ns2.2, hb⟩
    · match ps, hps with
      | [x, y], _ => rfl
    · match i, hi, hp with
      | 0, _, hp =>
        have d1 : p.dep = a.dep := hp.dep
        have d2 : p.size = a.size := hp.size
        exact ⟨by show max p.dep b.dep + 1 = max a.dep b.dep + 1; rw [d1], by show p.size + b.size + 1 = a.size + b.size + 1; rw [d2], by show (p.ns && b.ns) = true; rw [hp.ns, ns2.2]; rfl, fun x hx => (List.mem_append.mp hx).elim (hp.inh x) (hb x)⟩
      | 1, _, hp =>
        have d1 : p.dep = b.dep := hp.dep
        have d2 : p.size = b.size := hp.size
        exact ⟨by show max a.dep p.dep + 1 = max a.dep b.dep + 1; rw [d1], by show a.size + p.size + 1 = a.size + b.size + 1; rw [d2], by show (a.ns && p.ns) = true; rw [hp.ns, ns2.1]; rfl, fun x hx => (List.mem_append.mp hx).elim (ha x) (hp.inh x)⟩
end
end R
set_option maxHeartbeats 4123456
/-! QG: the law of k46. -/
namespace R
open PySem L2
section
variable {K : PySem.W.Frag} {vs : List V} {H : Hp} {Q : VK} {E : XK} {δ δ1 : List En} {te ti tq tr tf : TE} {ds : List Da} {ts : TS} {D : Po}
theorem pu_bodyT {P : List Da → Da → Prop} {N : List Str} {t : TS} (h : PuSp K P vs H Q E) (hN : ∀ ds r, P ds r → ds.length ≤ N.length)
    (hb : ∀ ds r, P ds r → Std K t (envOf N (ds.map .rep)) { nx := fun _ => r = .non, rt := fun d _ => d = r, top := true }) : t { nx := fun _ H' => Q .non H', rt := Q } (L2.start N vs) H := by
  obtain ⟨G, ds, r, le, rs, p, q⟩ := h
  refine hb ds r p none (fun _ => rfl) G H none G H (L2.start N vs) _ (Ext.refl le) (er_start rs (hN ds r p)) ?_ ?_ (fun _ _ _ _ _ _ _ _ z => z) (fun _ _ _ _ _ _ _ _ z => z)
  · intro bx G' H' σ' δ' x s er e
    exact q .non G' H' x (e ▸ .non)
  · intro v d bx G' H' σ' δ' x s er rr e
    exact q v G' H' x (e ▸ rr)
/-! ### forgetting -/
theorem ER.forget {bp bx : Option Addr} {He G H : Hp} {σ : L2.St} (E : ER K bp He bx G H σ δ) (hl : δ1.length = δ.length) (h : ∀ (i : Nat) (en : En), δ1[i]? = some en → en = En.any ∨ δ[i]? = some en) : ER K bp He bx G H σ δ1 := by
  refine ⟨E.len.trans hl.symm, fun i en e => ?_, fun i j ds es l ne h1 h2 h3 => ?_, E.bxo, E.bxt, E.bxp⟩
  · rcases h i en e with rfl | q
    · trivial
    · exact E.at_ i en q
  · rcases h i _ h1 with z | q1
    · cases z
    · rcases h j _ h2 with z | q2
      · cases z
      · exact E.sep i j ds es l ne q1 q2 h3
def fgt : List Bool → List En → List En
  | [], δ => δ
  | _, [] => []
  | true :: bs, e :: δ => e :: fgt bs δ
  | false :: bs, _ :: δ => .any :: fgt bs δ
theorem fgt_ok : ∀ (bs : List Bool) (δ : List En), (fgt bs δ).length = δ.length ∧ ∀ (i : Nat) (en : En), (fgt bs δ)[i]? = some en → en = En.any ∨ δ[i]? = some en
  | [], δ => ⟨rfl, fun i en e => .inr e⟩
  | b :: bs, [] => ⟨by cases b <;> rfl, fun i en e => .inr (by cases b <;> exact e)⟩
  | true :: bs, e :: δ => by
    obtain ⟨a, c⟩ := fgt_ok bs δ
    refine ⟨by show (fgt bs δ).length + 1 = _; rw [a]; rfl, fun i en h => ?_⟩
    cases i with
    | zero => exact .inr h
    | succ i => exact c i en h
  | false :: bs, e :: δ => by
    obtain ⟨a, c⟩ := fgt_ok bs δ
    refine ⟨by show (fgt bs δ).length + 1 = _; rw [a]; rfl, fun i en h => ?_⟩
    cases i with
    | zero => exact .inl (Option.some.inj h).symm
    | succ i => exact c i en h
theorem std_forget (bs : List Bool) (h : Std K ts (fgt bs δ) D) : Std K ts δ D := fun bp tp Ge He bx G H σ E x er =>
  h bp tp Ge He bx G H σ E x (er.forget (fgt_ok bs δ).1 (fgt_ok bs δ).2)
/-! ### rows that fit -/
def rowL (w n : Nat) : Da := .str (rowS (bitsB w n))
def rowsL (w : Nat) : Da := .lst ((List.range (2 ^ w)).map (rowL w))
def fitL (w : Nat) (q : Req) : Da := .lst ((((List.range (2 ^ w)).filter fun n => q.sem (rowN w n)).map fun n => rowS (bitsB w n)).map Da.str)
theorem in_fit {w n : Nat} {q : Req} (hn : n < 2 ^ w) : decide (rowS (bitsB w n) ∈ ((List.range (2 ^ w)).filter fun n => q.sem (rowN w n)).map fun n => rowS (bitsB w n)) = q.sem (rowN w n) := by
  cases h : q.sem (rowN w n) with
  | true => exact decide_eq_true (List.mem_map.mpr ⟨n, List.mem_filter.mpr ⟨List.mem_range.mpr hn, h⟩, rfl⟩)
  | false =>
    refine decide_eq_false fun z => ?_
    obtain ⟨m, hm, e⟩ := List.mem_map.mp z
    have e2 := congrArg (fun z : Str => z.cps.toList) e
    simp only [rowS_cp] at e2
    have e3 : rowN w m = rowN w n := e2
    have := (List.mem_filter.mp hm).2
    rw [e3, h] at this
    cases this
theorem evd_inFit {w n : Nat} {q : Req} (hr : Evd K tr δ (rowL w n)) (hf : Evd K tf δ (fitL w q)) (hn : n < 2 ^ w) : Evd K (tOp (rIn K false) tr tf) δ (.bl (q.sem (rowN w n))) :=
  (evd_op hr hf op2_inS).is (congrArg Da.bl (in_fit hn))
theorem evd_lawfits {w n : Nat} {q : Req} (hq : Evd K tq δ q.da) (hr : Evd K tr δ (rowL w n)) (ok : ReqOk w q) (hw : w ≤ 24) : Evd K (tCall (sp_law_fits K 14) [] E0 (tCons tq (tCons tr tNil))) δ (.bl (q.sem (rowN w n))) := by
  have hd := ok.dep
  have z1 : (rowS (bitsB w n)).length = w := by rw [rowS_len, bitsB_len]
  exact evd_call (eva_cons hq (eva_cons hr eva_nil)) ⟨q, rowS (bitsB w n), rfl, by omega, by omega, by rw [z1]; exact ok.holes, by rw [rowS_cp]; rfl⟩
theorem evd_landing {w n : Nat} {ps : List Stp} (hq : Evd K tq δ (progD ps)) (hr : Evd K tr δ (rowL w n)) (hl : ps.length ≤ 60) (hn : ∀ h ∈ needN ps, h < w) (hw : w ≤ 24) : Evd K (tCall (sp_law_landing K) [] E0 (tCons tq (tCons tr tNil))) δ (.int (landN ps (rowN w n) 0 : Nat)) := by
  have z1 : (rowS (bitsB w n)).length = w := by rw [rowS_len, bitsB_len]
  have zc : (rowS (bitsB w n)).cps.toList = rowN w n := rowS_cp _
  exact evd_call (eva_cons hq (eva_cons hr eva_nil)) ⟨ps, rowS (bitsB w n), rfl, hl, by omega, by rw [z1]; exact hn, by rw [zc]⟩
theorem first_filter {w : Nat} {f : List Nat → Bool} : (match (List.range (2 ^ w)).filter (fun n => f (rowN w n)) with | [] => Da.non | n :: _ => .str (rowS (bitsB w n))) = firstD w f := by
  unfold firstD
  rw [← List.head?_filter]
  cases (List.range (2 ^ w)).filter (fun n => f (rowN w n)) with
  | nil => rfl
  | cons n ns => rfl
theorem row_lt {w n : Nat} : ∀ c ∈ (rowS (bitsB w n)).cps.toList, c < 0x110000 := fun c hc => by
  rw [rowS_cp] at hc
  obtain ⟨b, _, rfl⟩ := List.mem_map.mp hc
  cases b <;> decide
structure Sml (d : Da) : Prop where
  p : pln d = true
  s : shw d = true
  l : dep d ≤ 2
  c : cost d ≤ 100000
theorem Sml.r {d : Da} (h : Sml d) : Rpr d := ⟨h.p, h.s, by have := h.l; omega, by have := h.c; omega⟩
theorem Sml.two {d e : Da} (h : Sml d) (g : Sml e) : Rpr (.lst [d, e]) := by
  refine ⟨?_, ?_, ?_, ?_⟩
  · show (pln d && (pln e && true)) = true
    rw [h.p, g.p]; rfl
  · show (shw d && (shw e && true)) = true
    rw [h.s, g.s]; rfl
  · show max (dep d) (max (dep e) 0) + 1 ≤ 40
    have := h.l
    have := g.l
    omega
  · show (cost d + 2 + (cost e + 2 + 0)) + 3 ≤ 16777216
    have := h.c
    have := g.c
    omega
theorem sml_non : Sml .non := ⟨rfl, rfl, Nat.zero_le _, by show 4 ≤ _; omega⟩
theorem sml_first {w : Nat} {f : List Nat → Bool} (hw : w ≤ 24) : Sml (firstD w f) := by
  unfold firstD
  split
  · exact sml_non
  · refine ⟨strOk_of row_lt, rfl, Nat.zero_le _, ?_⟩
    show 10 * (rowS _).length + 2 ≤ 100000
    rw [rowS_len, bitsB_len]; omega
theorem sml_bls {bs : List Bool} (h : bs.length ≤ 2000) : Sml (.lst (bs.map Da.bl)) := by
  refine ⟨plns_all fun d hd => ?_, shws_all fun d hd => ?_, ?_, ?_⟩
  · obtain ⟨b, _, rfl⟩ := List.mem_map.mp hd; rfl
  · obtain ⟨b, _, rfl⟩ := List.mem_map.mp hd; rfl
  · have := deps_all (n := 0) (ds := bs.map Da.bl) fun d hd => by obtain ⟨b, _, rfl⟩ := List.mem_map.mp hd; exact Nat.le_refl 0
    show deps _ + 1 ≤ 2
    omega
  · have := costs_all (n := 5) (ds := bs.map Da.bl) fun d hd => by obtain ⟨b, _, rfl⟩ := List.mem_map.mp hd; exact Nat.le_refl 5
    rw [List.length_map] at this
    show costs _ + 3 ≤ 100000
    omega
theorem sml_cards {cs : List (Str × Str)} (h : CardsOk cs) : Sml (.lst (cardsD cs)) :=
  ⟨cards_pln h, cards_shws cs, by show deps _ + 1 ≤ 2; have := cards_deps cs; omega, by show costs _ + 3 ≤ 100000; have := cards_cost h; omega⟩
theorem evd_even {ta tb : TE} {d : Da} (h1 : Evd K ta δ d) (h2 : Evd K tb δ d) (h : Rpr d) : Tvd K (tNot (tB (tCall (sp_law_even K) [] E0 (tCons ta (tCons tb tNil))))) δ (!true) :=
  tvd_not (tvd_B (evd_call (eva_cons h1 (eva_cons h2 eva_nil)) ⟨_, rfl, h, rfl⟩))
theorem evd_lawfirst {tw tn : TE} {w : Nat} {f : List Nat → Bool} (hw : Evd K tw δ (.int (w : Int))) (hn : Evd K tn δ (.lst (((List.range (2 ^ w)).filter fun n => f (rowN w n)).map fun n : Nat => .int (n : Int)))) (h10 : w ≤ 10) : Evd K (tCall (sp_law_first K) [] E0 (tCons tw (tCons tn tNil))) δ (firstD w f) := by
  have h3 := pow_small h10
  refine Evd.is (evd_call (eva_cons hw (eva_cons hn eva_nil)) ⟨w, _, rfl, by omega, ?_, rfl⟩) first_filter
  have := List.length_filter_le (fun n => f (rowN w n)) (List.range (2 ^ w))
  rw [List.length_range] at this
  omega
def enR (w n : Nat) : Da := .tup [.int (n : Nat), rowL w n]
/-- [number for number, row in enumerate(rows) if ..] -/
theorem evd_wrong {t : TT} {w i j : Nat} {f : List Nat → Bool} (hr : Evd K tr δ (rowsL w)) (h10 : w ≤ 10) (hij : i ≠ j) (hi : i < δ.length)
    (h : ∀ n, n < 2 ^ w → Tvd K t (((wipeE δ [i, j]).set i (.rep (.int (n : Nat)))).set j (.rep (rowL w n))) (f (rowN w n))) :
    Evd K (tLc (iEnum K (tCons tr tNil)) (gTup K 2 (gCons (gName i) (gCons (gName j) gNil))) t (tVar i) [i, j]) δ (.lst (((List.range (2 ^ w)).filter fun n => f (rowN w n)).map fun n : Nat => .int (n : Int))) := by
  have h3 := pow_small h10
  refine EvO.frz (evo_lcM (js := [i] ++ ([j] ++ [])) (xs := List.range (2 ^ w)) (φ := enR w) (f := fun n : Nat => Da.int (n : Int)) (src_enumR hr) (fun k h => h) (by rw [List.length_range]; omega) fun k n e => ?_)
  obtain ⟨hk, rfl⟩ := range_at e
  refine ⟨_, tg_two, h k hk, fun _ => evd_var ?_⟩
  rw [List.getElem?_set_ne hij.symm, List.getElem?_set_self (by show i < ((δ.set j .any).set i .any).length; rw [List.length_set, List.length_set]; exact hi)]
def sp_law (K : PySem.W.Frag) : Sp := PuSp K fun ds r => ∃ ns : List Int, ds = [.scr ns] ∧ ns.length ≤ 100000 ∧ r = .bl true
def t_law (K : PySem.W.Frag) (ka kb : Int) : TS := (tSeq (tFor (iRng1 (tCons (tCB rMax2 (tCons (tC (.int 2)) (tCons (tCB rMin2 (tCons (tC (.int 3)) (tCons (tCB (rLenA K) (tCons (tVar 0) tNil)) tNil))) tNil))) tNil)) (gName 1) (tSeq (tAsg (tCall (sp_law_box K) [] E0 (tCons (tCall (sp_law_cell K ka kb) [] E0 (tCons (tVar 0) (tCons (tVar 1) tNil))) tNil)) (gName 2))
  (tSeq (tAsg (tOp (rI0 fun i j => .int (i + j)) (tC (.int 2)) (tCall (sp_law_take K) [] E0 (tCons (tVar 2) (tCons (tC (.int 6)) tNil)))) (gName 3))
  (tSeq (tAsg (tTup (tCons (tLc (iRng1 (tCons (tC (.int 8)) tNil)) (gName 7) tYes (tCall (sp_law_take K) [] E0 (tCons (tVar 2) (tCons (tVar 3) tNil))) [7]) (tCons (tCall (sp_law_rows K) [] E0 (tCons (tVar 3) tNil)) tNil))) (gTup K 2 (gCons (gName 10) (gCons (gName 11) gNil))))
  (tSeq (tAsg (tTup (tCons (tCall (sp_law_wide K) [] E0 (tCons (tVar 2) (tCons (tVar 10) (tCons (tOp (rI0 fun i j => .int (i + j)) (tC (.int 17)) (tCall (sp_law_take K) [] E0 (tCons (tVar 2) (tCons (tC (.int 14)) tNil)))) tNil)))) (tCons (tCall (sp_law_deep K) [] E0 (tCons (tVar 2) (tCons (tVar 10) tNil))) tNil))) (gTup K 2 (gCons (gName 12) (gCons (gName 13) gNil))))
  (tSeq (tAsg (tLc (iList K (tCall (sp_law_names K) [] E0 (tCons (tVar 2) (tCons (tC (.int 60)) tNil)))) (gName 16) tYes (tTup (tCons (tVar 16) (tCons (tOp (rIxL K) (tVar 11) (tCall (sp_law_take K) [] E0 (tCons (tVar 2) (tCons (tCB (rLenA K) (tCons (tVar 11) tNil)) tNil)))) tNil))) [16]) (gName 4))
  (tSeq (tFor (iList K (tLst (tCons (tVar 12) (tCons (tVar 13) tNil)))) (gName 5) (tSeq (tAsg (tLc (iList K (tVar 11)) (gName 17) (tB (tCall (sp_law_fits K 14) [] E0 (tCons (tVar 5) (tCons (tVar 17) tNil)))) (tVar 17) [17]) (gName 14))
  (tSeq (tIfS (tNot (tB (tCall (sp_law_even K) [] E0 (tCons (tLc (iList K (tVar 11)) (gName 17) tYes (tCall (sp_fits K) [] E0 (tCons (tVar 5) (tCons (tVar 17) tNil))) [17]) (tCons (tLc (iList K (tVar 11)) (gName 17) tYes (tOp (rIn K false) (tVar 17) (tVar 14)) [17]) tNil))))) (tRet (tC (.bl false))) tNext)
  (tSeq (tIfS (tNot (tB (tCall (sp_law_even K) [] E0 (tCons (tMeth (He.ga K "Pack") "cards" (sp_Pack_cards K) [] E0 (tCall (sp_picks K) [] E0 (tCons (tVar 5) (tCons (tMake (He.ga K "Pack") (sp_Pack_Dinit K) [] E0 (tCons (tCB (rListOf K) (tCons (tVar 4) tNil)) tNil)) tNil))) tNil) (tCons (tLc (iList K (tVar 4)) (gName 21) (tTest (tOp (rIn K false) (tOp (rIxT K) (tVar 21) (tC (.int 1))) (tVar 14))) (tVar 21) [21]) tNil))))) (tRet (tC (.bl false))) tNext)
  (tSeq (tAsg (tCall (sp_law_changed K 14) [] E0 (tCons (tVar 2) (tCons (tVar 5) (tCons (tVar 10) tNil)))) (gName 15))
  (tSeq (tAsg (tLc (iEnum K (tCons (tVar 11) tNil)) (gTup K 2 (gCons (gName 20) (gCons (gName 17) gNil))) (tTest (tOp rNe (tOp (rIn K false) (tVar 17) (tVar 14)) (tCall (sp_law_fits K 14) [] E0 (tCons (tVar 15) (tCons (tVar 17) tNil))))) (tVar 20) [20, 17]) (gName 9))
  (tIfS (tNot (tB (tCall (sp_law_even K) [] E0 (tCons (tCall (sp_difference K) [] E0 (tCons (tVar 5) (tCons (tVar 15) (tCons (tVar 3) tNil)))) (tCons (tCall (sp_law_first K) [] E0 (tCons (tVar 3) (tCons (tVar 9) tNil))) tNil))))) (tRet (tC (.bl false))) tNext)))))))
  (tSeq (tAsg (tCall (sp_program_for K) [] E0 (tCons (tVar 12) tNil)) (gName 6))
  (tSeq (tIfS (tOr (tNot (tB (tCB (rIsi K) (tCons (tVar 6) (tCons (tC (.ty "list")) tNil))))) (tOr (tNot (tB (tCall (sp_law_is_program K) [] E0 (tCons (tVar 6) tNil)))) (tTest (tOp (rI0 fun i j => .bl (decide (j < i))) (tCB (rLenA K) (tCons (tVar 6) tNil)) (tCB (rLenA K) (tCons (tCall (sp_law_holes K 14) [] E0 (tCons (tVar 12) tNil)) tNil)))))) (tRet (tC (.bl false))) tNext)
  (tSeq (tIfS (tTest (tOp (rNeD K) (tLc (iList K (tVar 11)) (gName 17) (tTest (tOp rNe (tCall (sp_law_landing K) [] E0 (tCons (tVar 6) (tCons (tVar 17) tNil))) (tOp (rIxL K) (tLst (tCons (tC (.int 2)) (tCons (tC (.int 1)) tNil))) (tCB rInt1 (tCons (tCall (sp_law_fits K 14) [] E0 (tCons (tVar 12) (tCons (tVar 17) tNil))) tNil))))) (tVar 17) [17]) (tLst tNil))) (tRet (tC (.bl false))) tNext)
  (tSeq (tAsg (tCall (sp_law_take K) [] E0 (tCons (tVar 2) (tCons (tCB (rLenA K) (tCons (tVar 6) tNil)) tNil))) (gName 7))
  (tSeq (tAsg (tLc (iEnum K (tCons (tVar 6) tNil)) (gTup K 2 (gCons (gName 18) (gCons (gName 19) gNil))) tYes (tIf (tTest (tOp rEq (tVar 18) (tVar 7))) (tCall (sp_law_step K) [] E0 (tCons (tVar 2) (tCons (tVar 10) tNil))) (tVar 19)) [18, 19]) (gName 8))
  (tSeq (tAsg (tLc (iEnum K (tCons (tVar 11) tNil)) (gTup K 2 (gCons (gName 20) (gCons (gName 17) gNil))) (tTest (tOp rNe (tOp rEq (tCall (sp_law_landing K) [] E0 (tCons (tVar 8) (tCons (tVar 17) tNil))) (tC (.int 1))) (tCall (sp_law_fits K 14) [] E0 (tCons (tVar 12) (tCons (tVar 17) tNil))))) (tVar 20) [20, 17]) (gName 9))
  (tIfS (tNot (tB (tCall (sp_law_even K) [] E0 (tCons (tLst (tCons (tCall (sp_fault K) [] E0 (tCons (tVar 6) (tCons (tVar 12) (tCons (tVar 3) tNil)))) (tCons (tCall (sp_fault K) [] E0 (tCons (tVar 8) (tCons (tVar 12) (tCons (tVar 3) tNil)))) tNil))) (tCons (tLst (tCons (tC .non) (tCons (tCall (sp_law_first K) [] E0 (tCons (tVar 3) (tCons (tVar 9) tNil))) tNil))) tNil))))) (tRet (tC (.bl false))) tNext))))))))))))))
  (tRet (tC (.bl true))))
def N_law : List Str := ["script", "k", "box", "width", "cards", "request", "program", "at", "bent", "wrong", "holes", "rows", "wide", "deep", "fitting", "other", "name", "row", "place", "step", "number", "card"]
theorem DeepOk.req {w : Nat} {hs : List Nat} {q : Req} (h : DeepOk hs q) (hw : ∀ x ∈ hs, x < w) : ReqOk w q := ⟨h.dep, h.size, fun x hx => hw x (h.inh x hx)⟩
theorem WideOk.deep {hs : List Nat} {q : Req} (h : WideOk hs q) : DeepOk hs q := ⟨h.dep, h.ns, h.inh, h.size⟩
theorem Chg.req {w : Nat} {hs : List Nat} {q p : Req} (h : Chg (q, hs) p) (d : DeepOk hs q) (hw : ∀ x ∈ hs, x < w) : ReqOk w p :=
  ⟨by rw [show p.dep = q.dep from h.dep]; exact d.dep, by rw [show p.size = q.size from h.size]; exact d.size, fun x hx => hw x (h.inh x hx)⟩
theorem pure_law {ka kb : Int} (T : PkC K) (h : sp_law K vs H Q E) : t_law K ka kb { nx := fun _ H' => Q .non H', rt := Q } (L2.start N_law vs) H := by
  refine pu_bodyT h (fun ds r ⟨_, e, _⟩ => by rw [e]; exact Nat.le_add_left 1 21) ?_
  rintro _ _ ⟨ns, rfl, hns, rfl⟩
  refine std_seq ?_
  refine std_for (js := [1]) (src_rng1 (n := if (if (ns.length : Int) < 3 then (ns.length : Int) else 3) > 2 then (if (ns.length : Int) < 3 then (ns.length : Int) else 3) else 2)
    (eva_cons (evd_cb (eva_cons evd_int (eva_cons (evd_cb (eva_cons evd_int (eva_cons (evd_cb (eva_cons (evd_var rfl) eva_nil) opn_lenC) eva_nil)) opn_min2) eva_nil)) opn_max2) eva_nil) (by split <;> split <;> omega) (by split <;> split <;> omega))
    (fun i δ => ∃ e1 e2 e3 e4 e5 e6 e7 e8 e9 e10 e11 e12 e13 e14 e15 e16 e17 e18 e19 e20 e21, δ = [.rep (.scr ns), e1, e2, e3, e4, e5, e6, e7, e8, e9, e10, e11, e12, e13, e14, e15, e16, e17, e18, e19, e20, e21])
    ⟨_, _, _, _, _, _, _, _, _, _, _, _, _, _, _, _, _, _, _, _, _, rfl⟩ ?_ ?_
  rotate_left
  · rintro δ1 ⟨e1, e2, e3, e4, e5, e6, e7, e8, e9, e10, e11, e12, e13, e14, e15, e16, e17, e18, e19, e20, e21, rfl⟩
    exact std_ret evd_bl rfl
  rintro k d δ1 e ⟨e1, e2, e3, e4, e5, e6, e7, e8, e9, e10, e11, e12, e13, e14, e15, e16, e17, e18, e19, e20, e21, rfl⟩
  obtain ⟨hk, rfl⟩ := irng_at e
  have hk3 : k < 3 := by revert hk; split <;> split <;> omega
  refine ⟨_, tg_name, std_forget [true, true, false, false, false, false, false, false, false, false, false, false, false, false, false, false, false, false, false, false, false, false] ?_⟩
  show Std K _ [.rep (.scr ns), .rep (.int (0 + (k : Int))), .any, .any, .any, .any, .any, .any, .any, .any, .any, .any, .any, .any, .any, .any, .any, .any, .any, .any, .any, .any] _
  refine std_seq (std_asgBox rfl (evd_call (eva_cons (evd_var rfl) (eva_cons (evd_var rfl) eva_nil)) ⟨ns, _, rfl, by omega, by omega, rfl⟩) (std_seq ?_))
  refine std_asgE (c := 0 + 1) (P := fun d => ∃ w : Nat, d = .int (w : Int) ∧ 2 ≤ w ∧ w ≤ 7) (eve_op evd_int.eve (take_ev (n := 0 + 0) rfl evd_int (by decide) (by decide) (by decide)) ?_) ?_
  · rintro _ _ rfl ⟨x, rfl, x0, x1⟩
    exact ⟨_, op2_I0 (g := fun i j => i + j), (2 + x).toNat, congrArg Da.int (by show (2 : Int) + x = _; omega), by omega, by omega⟩
  rintro _ ⟨w, rfl, w2, w7⟩
  have h10 : w ≤ 10 := by omega
  have h24 : w ≤ 24 := by omega
  have p7 : 2 ^ w ≤ 128 := Nat.le_trans (Nat.pow_le_pow_right (by decide) w7) (by decide)
  have p0 : 1 ≤ 2 ^ w := Nat.one_le_two_pow
  show Std K _ [.rep (.scr ns), .rep (.int (0 + (k : Int))), .box (0 + (0 + 1)), .rep (.int (w : Int)), .any, .any, .any, .any, .any, .any, .any, .any, .any, .any, .any, .any, .any, .any, .any, .any, .any, .any] _
  -- the holes, the rows
  refine std_seq (std_asgTE (c := 8 + 0) (P := fun d => ∃ hs : List Nat, d = .tup [.lst (natsD hs), rowsL w] ∧ hs.length = 8 ∧ ∀ h ∈ hs, h < w) (js := [10] ++ ([11] ++ [])) (eve_tup (eveA_cons (k1 := 8) (P1 := fun d => ∃ hs : List Nat, d = .lst (natsD hs) ∧ hs.length = 8 ∧ ∀ h ∈ hs, h < w) ((EveO.frz (eveo_lc (c := 1) (js := [7]) (P := fun _ r => ∃ x : Nat, r = .int (x : Int) ∧ x < w) (src_rng1 (n := 8) (eva_cons evd_int eva_nil) (by decide) (by decide)) (fun j h => h) (by decide) ?_)).imp (by decide) ?_) fun _ => (eva_cons (evd_call (r := rowsL w) (eva_cons (evd_var rfl) eva_nil) ⟨w, rfl, h10, rfl⟩) eva_nil).eve) ?_) ?_)
  · rintro i d e
    obtain ⟨hi, rfl⟩ := irng_at e
    have hi : i < 8 := hi
    refine ⟨_, tg_name, (take_ev (n := 0 + (0 + 1) + i * 1) (m := (w : Int)) rfl (evd_var rfl) (by omega) (by omega) (by omega)).mono ?_⟩
    rintro _ ⟨x, rfl, x0, x1⟩
    exact ⟨x.toNat, congrArg Da.int (by omega), by omega⟩
  · rintro _ ⟨rs, rfl, hl, hP⟩
    obtain ⟨hs, rfl, hh⟩ := lift_list (mk := fun x : Nat => Da.int (x : Int)) (p := fun x => x < w) hP
    rw [List.length_map] at hl
    exact ⟨hs, rfl, hl, hh⟩
  · rintro _ ⟨_, _, rfl, ⟨hs, rfl, hl, hh⟩, rfl⟩
    exact ⟨Nat.le_add_left 2 99998, hs, rfl, hl, hh⟩
  rintro _ ⟨hs, rfl, hl8, hhw⟩
  refine ⟨_, tg_two, ?_⟩
  show Std K _ [.rep (.scr ns), .rep (.int (0 + (k : Int))), .box 9, .rep (.int (w : Int)), .any, .any, .any, .any, .any, .any, .rep (.lst (natsD hs)), .rep (rowsL w), .any, .any, .any, .any, .any, .any, .any, .any, .any, .any] _
  -- the requests
  refine std_seq (std_asgTE (c := 201 + 40) (P := fun d => ∃ q p : Req, d = .tup [q.da, p.da] ∧ WideOk hs q ∧ DeepOk hs p) (js := [12] ++ ([13] ++ [])) (eve_tup (eveA_two (c1 := 201) (P1 := fun d => ∃ q : Req, d = q.da ∧ WideOk hs q) ((eve_callGE (n := 9) (k := 0 + 1) (c := 200) rfl (eveA_cons (P1 := fun d => d = .lst (natsD hs)) (evd_var rfl).eve fun _ => eveA_one (eve_op (c1 := 0) (c2 := 1) (P := fun d => ∃ m : Int, d = .int m ∧ 1 ≤ m ∧ m ≤ 30) evd_int.eve (take_ev (n := 9 + 0 + 0) (m := 14) rfl evd_int (by decide) (by decide) (by decide)) ?_)) (by decide) ?_).le (by decide)) (eve_callG (c := 40) (n := 9 + 201) hs rfl (eva_cons (evd_var rfl) eva_nil) (by decide) ⟨rfl, by omega, by omega⟩)) ?_) ?_)
  · rintro _ _ rfl ⟨x, rfl, x0, x1⟩
    exact ⟨_, op2_I0 (g := fun i j => i + j), _, rfl, by show (1 : Int) ≤ 17 + x; omega, by show (17 : Int) + x ≤ 30; omega⟩
  · rintro _ ⟨_, _, rfl, rfl, _, rfl, m, rfl, m0, m1⟩
    exact ⟨hs, ⟨m, rfl, by omega, by omega, m0, m1⟩, fun r hr => hr⟩
  · rintro _ ⟨_, _, rfl, ⟨q, rfl, hq⟩, p, rfl, hp⟩
    exact ⟨Nat.le_add_left 2 99998, q, p, rfl, hq, hp⟩
  rintro _ ⟨wd, dp, rfl, okW, okD⟩
  refine ⟨_, tg_two, ?_⟩
  show Std K _ [.rep (.scr ns), .rep (.int (0 + (k : Int))), .box 250, .rep (.int (w : Int)), .any, .any, .any, .any, .any, .any, .rep (.lst (natsD hs)), .rep (rowsL w), .rep wd.da, .rep dp.da, .any, .any, .any, .any, .any, .any, .any, .any] _
  -- the cards
  refine std_seq (std_asgE (c := 10 + 60 * 1) (P := fun d => ∃ cs : List (Str × Str), d = .lst (cardsD cs) ∧ cs.length = 60 ∧ (cs.map (·.1)).Nodup ∧ (∀ c ∈ cs, nameOk c.1) ∧ ∀ c ∈ cs, ∃ n, n < 2 ^ w ∧ c.2 = rowS (bitsB w n)) ((EveO.frz (eveo_lcE (c0 := 10) (c := 1) (N := 60) (js := [16]) (PL := fun ds => ∃ zs : List Str, ds = zs.map .str ∧ NamesOk 60 zs) (PT := fun ds i r => ∃ n : Nat, n < 2 ^ w ∧ ∃ z : Str, ds[i]? = some (.str z) ∧ r = .tup [.str z, rowL w n])
    (src_listE (eve_call (n := 250) (c := fun _ => 10) (c' := 10) rfl (eva_cons evd_int eva_nil) (by decide) ⟨60, rfl, by decide, by decide⟩ (Nat.le_refl _)) ?_) (fun j h => h) (fun ds ⟨zs, e, ok⟩ => by rw [e, List.length_map, ok.len]; decide) (by decide) ?_)).imp (by decide) ?_) ?_)
  · rintro _ ⟨m, zs, e, rfl, ok⟩
    cases e
    exact ⟨_, rfl, zs, rfl, ok⟩
  · rintro _ ⟨zs, rfl, ok⟩ i d e
    have hi : i < 60 := by
      have := (List.getElem?_eq_some_iff.mp e).1
      rw [List.length_map, ok.len] at this
      exact this
    have e0 := e
    rw [List.getElem?_map] at e
    obtain ⟨z, ez, rfl⟩ := Option.map_eq_some_iff.mp e
    refine ⟨_, tg_name, (eve_tup (c := 0 + 1) (P := fun r => ∃ n : Nat, n < 2 ^ w ∧ ∃ z : Str, (zs.map Da.str)[i]? = some (.str z) ∧ r = .tup [.str z, rowL w n]) (eveA_cons (P1 := fun d => d = .str z) (evd_var rfl).eve fun _ => eveA_one (eve_ixL (c := 1) (ds := (List.range (2 ^ w)).map (rowL w)) (evd_var rfl) ((take_ev (n := 250 + (10 + i * 1) + 0) (m := ((2 ^ w : Nat) : Int)) rfl (Evd.is (evd_cb (eva_cons (evd_var rfl) eva_nil) (opn_lenL (ds := (List.range (2 ^ w)).map (rowL w)))) (by rw [List.length_map, List.length_range])) (by omega) (by omega) (by omega)).mono ?_))) ?_).le (by decide)⟩
    · rintro _ ⟨x, rfl, x0, x1⟩
      exact ⟨x, rfl, x0, by rw [List.length_map, List.length_range]; exact x1⟩
    · rintro _ ⟨_, _, rfl, rfl, _, rfl, hm⟩
      obtain ⟨n, hn, rfl⟩ := List.mem_map.mp hm
      exact ⟨Nat.le_add_left 2 99998, n, List.mem_range.mp hn, z, e0, rfl⟩
  · rintro _ ⟨rs, rfl, _, ⟨zs, rfl, ok⟩, hl, hP⟩
    obtain ⟨cs, rfl, hcs⟩ := lift_listI (mk := cardD) (p := fun i c => zs[i]? = some c.1 ∧ ∃ n, n < 2 ^ w ∧ c.2 = rowS (bitsB w n)) 0 (fun i r e => by
      obtain ⟨n, hn, z, ez, rfl⟩ := hP i r e
      rw [List.getElem?_map] at ez
      obtain ⟨z', ez', e2⟩ := Option.map_eq_some_iff.mp ez
      cases e2
      exact ⟨(z, rowS (bitsB w n)), rfl, by rw [Nat.zero_add]; exact ez', n, hn, rfl⟩)
    rw [List.length_map, List.length_map] at hl
    have hfst : cs.map (·.1) = zs := by
      refine List.ext_getElem? fun i => ?_
      rw [List.getElem?_map]
      cases ec : cs[i]? with
      | none =>
        have := List.getElem?_eq_none_iff.mp ec
        rw [List.getElem?_eq_none (by omega)]; rfl
      | some c =>
        have := (hcs i c ec).1
        rw [Nat.zero_add] at this
        rw [this]; rfl
    refine ⟨cs, rfl, by rw [hl, ok.len]; rfl, by rw [hfst]; exact ok.nd, fun c hc => ok.ok _ (by rw [← hfst]; exact List.mem_map.mpr ⟨c, hc, rfl⟩), fun c hc => ?_⟩
    obtain ⟨i, hi⟩ := List.getElem?_of_mem hc
    exact (hcs i c hi).2
  rintro _ ⟨cs, rfl, c60, cnd, cnm, crw⟩
  show Std K _ [.rep (.scr ns), .rep (.int (0 + (k : Int))), .box 320, .rep (.int (w : Int)), .rep (.lst (cardsD cs)), .any, .any, .any, .any, .any, .rep (.lst (natsD hs)), .rep (rowsL w), .rep wd.da, .rep dp.da, .any, .any, .any, .any, .any, .any, .any, .any] _
  have rowsOk : ∀ c ∈ cs, rowOk c.2 ∧ c.2.length = w := fun c hc => by
    obtain ⟨n, hn, e⟩ := crw c hc
    rw [e]
    exact ⟨rowS_ok (by rw [bitsB_len]; omega) (by rw [bitsB_len]; omega), by rw [rowS_len, bitsB_len]⟩
  have pok : PackOk cs := ⟨by omega, fun c hc => ⟨cnm c hc, (rowsOk c hc).1⟩, cnd, w, fun c hc => (rowsOk c hc).2⟩
  have cne : cs ≠ [] := fun z => by rw [z] at c60; cases c60
  -- each request
  refine std_seq (std_for (js := [5]) (src_list (ds := [wd.da, dp.da]) (evo_lst (eva_cons (evd_var rfl) (eva_cons (evd_var rfl) eva_nil)) (Nat.le_add_left 2 99998)).frz) (fun i δ => ∃ (b : Nat) (e5 e9 e14 e15 : En), b ≤ 320 + 16 * i ∧ δ = [.rep (.scr ns), .rep (.int (0 + (k : Int))), .box b, .rep (.int (w : Int)), .rep (.lst (cardsD cs)), e5, .any, .any, .any, e9, .rep (.lst (natsD hs)), .rep (rowsL w), .rep wd.da, .rep dp.da, e14, e15, .any, .any, .any, .any, .any, .any])
    ⟨320, _, _, _, _, Nat.le_refl _, rfl⟩ ?_ ?_)
  · rintro i d δ1 ei ⟨b, e5, e9, e14, e15, hb, rfl⟩
    have hq : i < 2 ∧ ∃ q : Req, d = q.da ∧ DeepOk hs q := by
      match i, ei with
      | 0, ei => cases ei; exact ⟨by omega, wd, rfl, okW.deep⟩
      | 1, ei => cases ei; exact ⟨by omega, dp, rfl, okD⟩
      | i + 2, ei => cases ei
    obtain ⟨hi2, q, rfl, okq⟩ := hq
    have rq : ReqOk w q := okq.req hhw
    refine ⟨_, tg_name, std_forget [true, true, true, true, true, true, false, false, false, false, true, true, true, true, false, false, false, false, false, false, false, false] ?_⟩
    show Std K _ [.rep (.scr ns), .rep (.int (0 + (k : Int))), .box b, .rep (.int (w : Int)), .rep (.lst (cardsD cs)), .rep q.da, .any, .any, .any, .any, .rep (.lst (natsD hs)), .rep (rowsL w), .rep wd.da, .rep dp.da, .any, .any, .any, .any, .any, .any, .any, .any] _
    -- those that fit
    refine std_seq (std_asg (d := fitL w q) (Evd.is (EvO.frz (evo_lcM (js := [17]) (xs := List.range (2 ^ w)) (φ := rowL w) (keep := fun n => q.sem (rowN w n)) (f := rowL w) (src_list (evd_var rfl)) (fun j h => h) (by rw [List.length_range]; omega) fun j n e => ⟨_, tg_name, tvd_B (evd_lawfits (evd_var rfl) (evd_var rfl) rq h24), fun _ => evd_var rfl⟩)) (by unfold fitL; rw [List.map_map]; rfl)) ?_)
    refine std_seq (std_if (evd_even (d := .lst (((List.range (2 ^ w)).map fun n => q.sem (rowN w n)).map Da.bl)) (Evd.is (EvO.frz (evo_lcN (js := [17]) (xs := List.range (2 ^ w)) (φ := rowL w) (f := fun n => Da.bl (q.sem (rowN w n))) (src_list (evd_var rfl)) (fun j h => h) (by rw [List.length_range]; omega) fun j n e => ⟨_, tg_name, ?_⟩)) (by rw [List.map_map]; rfl)) (Evd.is (EvO.frz (evo_lcN (js := [17]) (xs := List.range (2 ^ w)) (φ := rowL w) (f := fun n => Da.bl (q.sem (rowN w n))) (src_list (evd_var rfl)) (fun j h => h) (by rw [List.length_range]; omega) fun j n e => ⟨_, tg_name, evd_inFit (evd_var rfl) (evd_var rfl) (by obtain ⟨h1, h2⟩ := range_at e; omega)⟩)) (by rw [List.map_map]; rfl)) (sml_bls (by rw [List.length_map, List.length_range]; omega)).r) (fun e => nomatch e) fun _ => std_next ?_)
    · have z1 : (rowS (bitsB w n)).length = w := by rw [rowS_len, bitsB_len]
      exact evd_call (eva_cons (evd_var rfl) (eva_cons (evd_var rfl) eva_nil)) ⟨q, rowS (bitsB w n), rfl, rowS_ok (by rw [bitsB_len]; omega) (by rw [bitsB_len]; omega), by rw [z1]; exact rq, by rw [rowS_cp]; rfl⟩
    -- picks
    refine std_seq (std_if (evd_even (d := .lst (cardsD (cs.filter (semC q)))) (evd_meth (evd_call (eva_cons (evd_var rfl) (eva_cons (evd_make (evo_cb (eva_cons (evd_var rfl) eva_nil) opno_listL).frz pok) eva_nil)) ⟨q, cs, w, rfl, pok, cne, fun c hc => (rowsOk c hc).2, rq, h24, rfl⟩) eva_nil (by decide) ⟨_, rfl, rfl⟩) (EvO.frz (evo_lcM (js := [21]) (xs := cs) (φ := cardD) (keep := semC q) (f := cardD) (src_list (evd_var rfl)) (fun j h => h) (by omega) fun j c e => ⟨_, tg_name, tvd_test ?_, fun _ => evd_var rfl⟩)) (sml_cards (pok.filter _).c).r) (fun e => nomatch e) fun _ => std_next ?_)
    · obtain ⟨n, hn, en⟩ := crw c (List.mem_of_getElem? e)
      have es : semC q c = q.sem (rowN w n) := by unfold semC; rw [en, rowS_cp]; rfl
      rw [es]
      exact evd_inFit (evd_op (evd_var rfl) evd_int (op2_ixT (d := rowL w n) (atI_nat (j := 1) (by show some (Da.str c.2) = _; rw [en]; rfl)))) (evd_var rfl) hn
    -- another
    refine std_seq (std_asgE (c := 16) (eve_callG (c := 14 + 2) (n := b) (q, hs) rfl (eva_cons (evd_var rfl) (eva_cons (evd_var rfl) eva_nil)) (by omega) ⟨rfl, by have := okq.dep; show q.dep < 14; omega, okq.ns, okq.inh, by show 1 ≤ hs.length; omega, by show hs.length ≤ 1000; omega⟩) ?_)
    rintro _ ⟨p, rfl, hp⟩
    have rp : ReqOk w p := hp.req okq hhw
    show Std K _ [.rep (.scr ns), .rep (.int (0 + (k : Int))), .box (b + 16), .rep (.int (w : Int)), .rep (.lst (cardsD cs)), .rep q.da, .any, .any, .any, .any, .rep (.lst (natsD hs)), .rep (rowsL w), .rep wd.da, .rep dp.da, .rep (fitL w q), .rep p.da, .any, .any, .any, .any, .any, .any] _
    refine std_seq (std_asg (evd_wrong (f := fun z => decide (q.sem z ≠ p.sem z)) (evd_var rfl) h10 (by decide) (Nat.le_add_left 21 1) fun n hn => Tvd.is (tvd_test (evd_op (evd_inFit (evd_var rfl) (evd_var rfl) hn) (evd_lawfits (evd_var rfl) (evd_var rfl) rp h24) op2_neB)) (by rw [decide_not])) ?_)
    refine std_if (evd_even (evd_call (eva_cons (evd_var rfl) (eva_cons (evd_var rfl) (eva_cons (evd_var rfl) eva_nil))) ⟨q, p, w, rfl, by omega, h10, rq, rp, rfl⟩) (evd_lawfirst (evd_var rfl) (evd_var rfl) h10) (sml_first h24).r) (fun e => nomatch e) fun _ => std_next ?_
    exact ⟨b + 16, _, _, _, _, by omega, rfl⟩
  rintro δ1 ⟨b, e5, e9, e14, e15, hb, rfl⟩
  have hb : b ≤ 320 + 16 * 2 := hb
  refine std_forget [true, true, true, true, true, false, false, false, false, false, true, true, true, true, false, false, false, false, false, false, false, false] ?_
  show Std K _ [.rep (.scr ns), .rep (.int (0 + (k : Int))), .box b, .rep (.int (w : Int)), .rep (.lst (cardsD cs)), .any, .any, .any, .any, .any, .rep (.lst (natsD hs)), .rep (rowsL w), .rep wd.da, .rep dp.da, .any, .any, .any, .any, .any, .any, .any, .any] _
  have rw' : ReqOk w wd := okW.deep.req hhw
  have h24h : ∀ h ∈ wd.holes, h < 24 := fun x hx => by have := rw'.holes x hx; omega
  -- the program
  have psl := steps_len wd 0 1 2 0 okW.ns
  have psz := steps_size wd 0 1 2 0
  have pneed := steps_need wd 0 1 2 0
  have pland : ∀ row, landN (stepsN wd 0 1 2 0) row 0 = if wd.sem row then 1 else 2 := fun row => (steps_land row wd 0 1 2 0 (by omega) (by omega) (by omega) (by omega) (by omega)).1
  have pgo : ProgOk (stepsN wd 0 1 2 0) := ⟨by have := okW.size; omega, steps_ok wd 0 1 2 0 (by omega) (by omega) (by omega) (by have := okW.nest; omega) h24h⟩
  refine std_seq (std_asg (d := progD (stepsN wd 0 1 2 0)) (evd_call (eva_cons (evd_var rfl) eva_nil) ⟨wd, rfl, okW.dep, h24h, okW.size, okW.nest, rfl⟩) ?_)
  generalize stepsN wd 0 1 2 0 = ps at psl psz pneed pland pgo ⊢
  have hl30 := okW.hl
  have hl0 := okW.h0
  have pl60 : ps.length ≤ 60 := pgo.len
  have pneedw : ∀ h ∈ needN ps, h < w := fun x hx => by rw [pneed] at hx; exact rw'.holes x hx
  have plen : ∀ δ' : List En, δ'[6]? = some (.rep (progD ps)) → Evd K (tCB (rLenA K) (tCons (tVar 6) tNil)) δ' (.int (ps.length : Int)) := fun δ' h => Evd.is (evd_cb (eva_cons (evd_var h) eva_nil) (opn_lenL (ds := ps.map Stp.da))) (by rw [List.length_map])
  refine std_seq (std_if (b := false) (Tvd.is (tvd_or (tvd_not (tvd_B (b := true) (evd_isiN true "list" (evd_var (d := progD ps) rfl)))) fun _ => tvd_or (tvd_not (tvd_B (b := true) (evd_call (eva_cons (evd_var rfl) eva_nil) ⟨ps, rfl, pgo, rfl⟩))) fun _ => Tvd.is (b := decide ((wd.holes.length : Int) < (ps.length : Int))) (c := false) (tvd_test (evd_op (plen _ rfl) (Evd.is (evd_cb (eva_cons (evd_call (eva_cons (evd_var rfl) eva_nil) ⟨wd, rfl, by have := okW.dep; omega, by have := okW.size; omega, rfl⟩) eva_nil) (opn_lenL (ds := natsD wd.holes))) (by rw [natsD_len])) op2_B0)) (decide_eq_false (by omega))) rfl) (fun e => nomatch e) fun _ => std_next ?_)
  refine std_seq (std_if (b := false) (tvd_test (evd_op (evd_noneLc (f := fun d => d) (js := [17]) (src_list (ds := (List.range (2 ^ w)).map (rowL w)) (evd_var rfl)) (fun j h => h) (by rw [List.length_map, List.length_range]; omega) ?_) (evo_lst eva_nil (by decide)).frz (op2_neSame rfl (by decide)))) (fun e => nomatch e) fun _ => std_next ?_)
  · rintro j d e
    rw [List.getElem?_map] at e
    obtain ⟨n, en, rfl⟩ := Option.map_eq_some_iff.mp e
    refine ⟨_, tg_name, Tvd.is (tvd_test (evd_op (evd_landing (evd_var rfl) (evd_var rfl) pl60 pneedw h24) (evd_op (d := .int ((if wd.sem (rowN w n) then 1 else 2 : Nat) : Int)) (evo_lst (eva_cons evd_int (eva_cons evd_int eva_nil)) (Nat.le_add_left 2 99998)).frz (evd_cb (eva_cons (evd_lawfits (evd_var rfl) (evd_var rfl) rw' h24) eva_nil) opn_intB) (op2_ixL ?_)) op2_neI)) ?_⟩
    · cases wd.sem (rowN w n)
      · exact atI_nat (j := 0) rfl
      · exact atI_nat (j := 1) rfl
    · rw [pland, decide_eq_true rfl]; rfl
  -- one step bent
  refine std_seq (std_asgE (c := 1) (take_ev (n := b) (m := (ps.length : Int)) rfl (plen _ rfl) (by omega) (by omega) (by omega)) ?_)
  rintro _ ⟨a, rfl, a0, a1⟩
  show Std K _ [.rep (.scr ns), .rep (.int (0 + (k : Int))), .box (b + 1), .rep (.int (w : Int)), .rep (.lst (cardsD cs)), .any, .rep (progD ps), .rep (.int a), .any, .any, .rep (.lst (natsD hs)), .rep (rowsL w), .rep wd.da, .rep dp.da, .any, .any, .any, .any, .any, .any, .any, .any] _
  refine std_seq (std_asgE (c := ps.length * 8) (P := fun d => ∃ bs : List Stp, d = progD bs ∧ bs.length = ps.length ∧ ∀ p ∈ bs, p.Ok ∧ ∀ h ∈ p.needle, h < w) ((EveO.frz (eveo_lc (c := 8) (js := [18] ++ ([19] ++ [])) (P := fun _ r => ∃ p : Stp, r = p.da ∧ p.Ok ∧ ∀ h ∈ p.needle, h < w) (src_enumL (ds := ps.map Stp.da) (evd_var rfl)) (fun j h => h) (by rw [enumL_len, List.length_map]; omega) ?_)).imp (by rw [enumL_len, List.length_map]; exact Nat.le_refl _) ?_) ?_)
  · rintro i d e
    obtain ⟨d', e', rfl⟩ := enumL_at e
    obtain ⟨p, ep, rfl⟩ := prog_get e'
    have hi : i < ps.length := (List.getElem?_eq_some_iff.mp ep).1
    have hm := List.mem_of_getElem? ep
    refine ⟨_, tg_two, eve_if (b := decide ((i : Int) = a)) (tvd_test (evd_op (evd_var rfl) (evd_var rfl) op2_eqI)) (fun _ => ?_) fun _ => ?_⟩
    · refine (eve_callG (c := 8) (n := b + 1 + i * 8) hs rfl (eva_cons (evd_var rfl) eva_nil) (by omega) ⟨rfl, by omega, by omega, fun h hh => by have := hhw h hh; omega⟩).mono ?_
      rintro _ ⟨p', rfl, o1, o2⟩
      exact ⟨p', rfl, o1, fun h hh => hhw h (o2 h hh)⟩
    · refine (evd_var rfl).eve.imp (by decide) ?_
      rintro _ rfl
      refine ⟨p, rfl, pgo.ok p hm, fun h hh => pneedw h (List.mem_flatMap.mpr ⟨p, hm, hh⟩)⟩
  · rintro _ ⟨rs, rfl, hl, hP⟩
    obtain ⟨bs, rfl, hbs⟩ := lift_list (mk := Stp.da) (p := fun p => p.Ok ∧ ∀ h ∈ p.needle, h < w) hP
    rw [List.length_map, enumL_len, List.length_map] at hl
    exact ⟨bs, rfl, hl, hbs⟩
  rintro _ ⟨bs, rfl, bl, hbs⟩
  have bgo : ProgOk bs := ⟨by omega, fun p hp => (hbs p hp).1⟩
  have bneed : ∀ h ∈ needN bs, h < w := fun x hx => by
    obtain ⟨p, hp, hx⟩ := List.mem_flatMap.mp hx
    exact (hbs p hp).2 x hx
  show Std K _ [.rep (.scr ns), .rep (.int (0 + (k : Int))), .box (b + 1 + ps.length * 8), .rep (.int (w : Int)), .rep (.lst (cardsD cs)), .any, .rep (progD ps), .rep (.int a), .rep (progD bs), .any, .rep (.lst (natsD hs)), .rep (rowsL w), .rep wd.da, .rep dp.da, .any, .any, .any, .any, .any, .any, .any, .any] _
  refine std_seq (std_asg (evd_wrong (f := fun z => decide (decide (landN bs z 0 = 1) ≠ wd.sem z)) (evd_var rfl) h10 (by decide) (Nat.le_add_left 21 1) fun n hn => Tvd.is (tvd_test (evd_op (Evd.is (d1 := .bl (decide (landN bs (rowN w n) 0 = 1))) (evd_op (evd_landing (evd_var rfl) (evd_var rfl) (by omega) bneed h24) evd_int op2_eqI) (congrArg Da.bl (decide_eq_decide.mpr (by omega)))) (evd_lawfits (evd_var rfl) (evd_var rfl) rw' h24) op2_neB)) (by rw [decide_not])) ?_)
  have efault : firstD w (fun z => decide (decide (landN ps z 0 = 1) ≠ wd.sem z)) = .non := first_none fun n _ => by
    show decide (decide (landN ps (rowN w n) 0 = 1) ≠ wd.sem (rowN w n)) = false
    rw [pland]
    cases wd.sem (rowN w n) <;> rfl
  refine std_if (evd_even (d := .lst [.non, firstD w fun z => decide (decide (landN bs z 0 = 1) ≠ wd.sem z)]) (EvO.frz (evo_lst (eva_cons (Evd.is (evd_call (eva_cons (evd_var rfl) (eva_cons (evd_var rfl) (eva_cons (evd_var rfl) eva_nil))) ⟨ps, wd, w, rfl, by omega, h10, pgo, rw', pneedw, rfl⟩) efault) (eva_cons (evd_call (eva_cons (evd_var rfl) (eva_cons (evd_var rfl) (eva_cons (evd_var rfl) eva_nil))) ⟨bs, wd, w, rfl, by omega, h10, bgo, rw', bneed, rfl⟩) eva_nil)) (Nat.le_add_left 2 99998))) (EvO.frz (evo_lst (eva_cons evd_non (eva_cons (evd_lawfirst (evd_var rfl) (evd_var rfl) h10) eva_nil)) (Nat.le_add_left 2 99998))) (sml_non.two (sml_first h24))) (fun e => nomatch e) fun _ => std_next ?_
  exact ⟨_, _, _, _, _, _, _, _, _, _, _, _, _, _, _, _, _, _, _, _, _, rfl⟩
end
end R
set_option maxHeartbeats 4123456
/-! PH: rules for the walk: CardError.__init__(self, ..), a def's promise. -/
namespace R
open PySem PySem.Spec PyProof.Rows L2
/-- what the written part says of the base class -/
structure BsC (K : PySem.W.Frag) (C : Addr) : Prop where
  sp : PySem.W.specialIn K (.ref C) "__getattribute__" = some (some (.builtin "type.__getattribute__"))
  ty : PySem.W.typeIn K (.ref C) = some (.type "type")
  rd : PySem.W.readsIn K C (.type "type") = true
  fc : PySem.W.findCls K (.ref C) (.type "type") "__init__" = some (.val (.builtin "ValueError.__init__"))
section
variable {X : Cx} {e : Expr} {es : List Expr} {ta : TA} {p1 p2 pos : Pos}
theorem pe_ceinit {pl : Sem Bool} {x : Str} {C0 : Addr} (B : BsC X.K C0) (hg : Gl X x) (hm : X.mg x = some (.ref C0)) (ha : PA X (e :: es) ta) (hdb : (x == ("__debug__" : Str)) = false := by decide)
    (hc : eval (.Call (.Attribute (.Name x p1) "__init__" p2) (e :: es) [] pos) X.env = (do
      let ov ← eval (.Name x p1) X.env
      standAt p2.atName
      let (f, first) ← holding [ov] (getMethod ov "__init__" pl)
      callWith pos f first (backTo pos (starEach (e :: es) X.env)) (backToKw pos (keywordEach [] X.env))) := by rfl)
    (he : starEach (e :: es) X.env = (false, eval e X.env) :: starEach es X.env := by rfl) (hpl : (backTo pos (starEach es X.env)).any (·.1) = false := by rfl) :
    PE X (.Call (.Attribute (.Name x p1) "__init__" p2) (e :: es) [] pos) (tVeI X.K ta) := by
  refine ⟨fun pins s σ H Q I h => ?_⟩
  refine PySem.W.methodCall_KW (ld_glob I hg hm ?_ hdb) hc
  obtain ⟨m, fr⟩ := I.fr
  refine PySem.W.method_of_cls fr I.ok.mod.kin B.sp (PySem.W.cls_val fr I.ok.mod.kin B.ty B.rd B.fc (by decide +kernel) ?_)
  show wpAny _ _ (callWith pos (Value.builtin "ValueError.__init__") [] (backTo pos (starEach (e :: es) X.env)) []) _ _ _
  refine PyProof.Rows.callWith_method1 (thn (ha.run pos pins _ σ H _ (I.tok _) h) fun us s1 ⟨vs, H1, I1, r1, a, C, ws, ev, hl, T, ea, q⟩ => ?_) he hpl
  subst ev
  cases r1 with
  | @cons _ u0 _ ur ra rw' =>
    obtain rfl : u0 = Value.ref a := ra
    have hlen : ur.length ≤ sizeLine := by
      rw [← Paired.length rw', sizeLine_eq]
      omega
    exact oinit_ok T I1 ea hlen fun s' J => ⟨.non, H1, J, rfl, q⟩
end
/-- a def's promise, with what a call wants -/
structure Cal (P : Program) (w : World) (K : PySem.W.Frag) (mg : Str → Option Value) (base : Heap) (CX : CXT) (k : Nat) (f : Addr) (ps : List Str) (sp : Sp) : Prop where
  ex : ∃ fd : FuncData, FnOk P w K mg base CX k f fd ps sp ∧ Binds K fd ps [] ∧ PySem.W.keepIn K (.ref f) = true
structure CalG (P : Program) (w : World) (K : PySem.W.Frag) (mg : Str → Option Value) (base : Heap) (CX : CXT) (k : Nat) (f : Addr) (ps : List Str) (sp : Sp) : Prop where
  ex : ∃ fd : FuncData, FnOkG P w K mg base CX k f fd ps sp ∧ Binds K fd ps [] ∧ PySem.W.keepIn K (.ref f) = true
theorem pu_len {K : PySem.W.Frag} {P : List Da → Da → Prop} {n : Nat} (hP : ∀ ds r, P ds r → ds.length = n) {vs : List V} {H : Hp} {Q : VK} {E : XK} (h : PuSp K P vs H Q E) : vs.length = n := by
  obtain ⟨G, ds, r, le, rs, p, q⟩ := h
  exact rs.len.trans (hP ds r p)
theorem bx_len {K : PySem.W.Frag} {c : List Da → Nat} {pre : List Da → Prop} {P : List Da → Da → Prop} {n : Nat} (hP : ∀ ds, pre ds → ds.length + 1 = n) {vs : List V} {H : Hp} {Q : VK} {E : XK} (h : BxSp K c pre P vs H Q E) : vs.length = n := by
  obtain ⟨G, b, us, ds, m, c0, c1, c2, rfl, le, g, hb, bv, hn, rs, hp, q⟩ := h
  rw [List.length_cons, rs.len]
  exact hP ds hp
end R
set_option maxHeartbeats 4123456
/-! PI: what the head looks at, as Bools. -/
namespace R
open PySem PySem.Spec PyProof.Rows L2
def ownB (K : PySem.W.Frag) (C : Addr) : Bool :=
  decide (PySem.W.findIn K (.ref C) "__class__" = some (some (.builtin "object.__class__")))
  && (decide (PySem.W.specialIn K (.builtin "object.__class__") "__get__" = some (some (.builtin "getset_descriptor.__get__")))
  && (decide (PySem.W.takesIn K (.builtin "object.__class__") = some true)
  && (decide (PySem.W.mroIn K C (.type "object") = some true)
  && decide (PySem.W.kitOne K (.ref C) (.ref C) = some true))))
theorem ownB_ok {K : PySem.W.Frag} {C : Addr} (c : Cls K C) (h : ownB K C = true) : Own K C := by
  obtain ⟨h1, h⟩ := He.ba h
  obtain ⟨h2, h⟩ := He.ba h
  obtain ⟨h3, h⟩ := He.ba h
  obtain ⟨h4, h5⟩ := He.ba h
  exact ⟨c, of_decide_eq_true h1, of_decide_eq_true h2, of_decide_eq_true h3, of_decide_eq_true h4, of_decide_eq_true h5⟩
/-- an own class over ValueError -/
def oexB (K : PySem.W.Frag) (C : Addr) : Bool := match K.lookup C with
  | some ⟨.type "type", _, .cls cd, sl⟩ => (match cd.mro, sl.toList with
    | .ref C' :: bm, [_, _, _, _, some (.builtin n), _] => C' == C && n == "ValueError.__new__" && !cd.hasDel && cd.hasDict && PySem.HandSPX.refsVE bm
    | _, _ => false)
  | _ => false
theorem oexB_ok {K : PySem.W.Frag} {C : Addr} (q : oexB K C = true) : ∃ nm q N bs bm sn sub ab col dd k0 k1 k2 k3 k5, K.lookup C = some (excClassObj nm q C N bs bm true sn sub ab col dd k0 k1 k2 k3 k5 "ValueError.__new__") ∧ PySem.HandSPX.refsVE bm = true := by
  unfold oexB at q
  split at q
  · rename_i dd cd sl ho
    split at q
    · rename_i C' bm k0 k1 k2 k3 n k5 hm hs
      simp only [Bool.and_eq_true, beq_iff_eq, Bool.not_eq_true'] at q
      obtain ⟨⟨⟨⟨e1, e2⟩, hdel⟩, hdc⟩, hv⟩ := q
      subst e1 e2
      obtain ⟨nm, bs, mro, ns, qn, hd, sn, sub, ab, col, del⟩ := cd
      dsimp only at hm hdel hdc
      subst hm hdel hdc
      have hsl : sl = #[k0, k1, k2, k3, some (.builtin "ValueError.__new__"), k5] := by
        obtain ⟨l⟩ := sl
        simp only at hs
        rw [hs]
      subst hsl
      exact ⟨nm, qn, ns, bs, bm, sn, sub, ab, col, dd, k0, k1, k2, k3, k5, ho, hv⟩
    · cases q
  · cases q
def bsB (K : PySem.W.Frag) (C : Addr) : Bool :=
  decide (PySem.W.specialIn K (.ref C) "__getattribute__" = some (some (.builtin "type.__getattribute__")))
  && (decide (PySem.W.typeIn K (.ref C) = some (.type "type"))
  && (PySem.W.readsIn K C (.type "type")
  && (match PySem.W.findCls K (.ref C) (.type "type") "__init__" with
    | some (.val (.builtin n)) => n == "ValueError.__init__"
    | _ => false)))
theorem bsB_ok {K : PySem.W.Frag} {C : Addr} (h : bsB K C = true) : BsC K C := by
  obtain ⟨h1, h⟩ := He.ba h
  obtain ⟨h2, h⟩ := He.ba h
  obtain ⟨h3, h⟩ := He.ba h
  refine ⟨of_decide_eq_true h1, of_decide_eq_true h2, h3, ?_⟩
  split at h
  · rename_i n e
    rw [e, beq_iff_eq.mp h]
  · cases h
def inB (K : PySem.W.Frag) (C : Addr) : Bool := decide (PySem.W.findIn K (.ref C) "__init__" = some (some (.ref (He.ma K C "__init__")))) && decide (PySem.W.typeIn K (.ref (He.ma K C "__init__")) = some (.type "function"))
theorem inB_ok {K : PySem.W.Frag} {C : Addr} (h : inB K C = true) : PySem.W.findIn K (.ref C) "__init__" = some (some (.ref (He.ma K C "__init__"))) ∧ PySem.W.typeIn K (.ref (He.ma K C "__init__")) = some (.type "function") := by
  obtain ⟨h1, h2⟩ := He.ba h
  exact ⟨of_decide_eq_true h1, of_decide_eq_true h2⟩
/-- what the names reach in n steps, and the interpreter's statics -/
def frY (g : Addr → Option Obj) (n : Nat) : PySem.W.Frag := He.frG g (He.asD g n ++ [cStatics])
def obsY (n : Nat) (fa : List He.Fa) (fn : List He.DefD) (ex : PySem.W.Frag → Bool) (g : Addr → Option Obj) : He.AlD × Bool := (He.obsD fa fn (frY g n), ex (frY g n))
structure SaysY (fa : List He.Fa) (fn : List He.DefD) (ex : PySem.W.Frag → Bool) (K : PySem.W.Frag) : Prop where
  d : He.SaysD fa fn K
  more : ex K = true
def hookY (n : Nat) (fa : List He.Fa) (fn : List He.DefD) (ex : PySem.W.Frag → Bool) : PySem.W.Hook where
  α := He.AlD × Bool
  obs := fun s => obsY n fa fn ex s.heap.get?
  val := fun _ => (He.valD fn, true)
  says := fun _ h => ∃ K : PySem.W.Frag, K.In h ∧ SaysY fa fn ex K
  of := fun _ _ e => ⟨_, He.frG_in, ⟨congrArg (fun z : He.AlD × Bool => z.1) e, congrArg (fun z : He.AlD × Bool => z.2) e⟩⟩
  keeps := fun _ _ _ ⟨K, hK, c⟩ k => ⟨K, PySem.W.Frag.In.keeps hK k, c⟩
theorem obsY_eq {n : Nat} {fa : List He.Fa} {fn : List He.DefD} {ex : PySem.W.Frag → Bool} {g : Addr → Option Obj} {s : Shared} (h : ∀ a, g a = s.heap.get? a) : obsY n fa fn ex g = (hookY n fa fn ex).obs s := by
  have e : g = s.heap.get? := funext h
  rw [e] <;> rfl
theorem sp_law_start {K : PySem.W.Frag} {H : Hp} {a : Addr} {ns : List Int} (hl : ns.length ≤ 100000) (hS : SqL K H a (ns.map V.int)) : PuSp K (fun ds r => ∃ ns : List Int, ds = [.scr ns] ∧ ns.length ≤ 100000 ∧ r = .bl true) [.ref a] H (fun v _ => v = .bl true) (fun _ _ _ => False) :=
  ⟨H, [.scr ns], .bl true, Same.refl H, .cons (.scr hS) .nil, ⟨ns, rfl, hl, rfl⟩, fun v G' H' x r => r.blI⟩
end R
set_option maxHeartbeats 4123456
/-! the walk, def by def -/
namespace W46
open PySem PySem.Spec PyProof.Rows L2 R
def top (i : Nat) : Stmt := PySem.Challenge.pw_needlecards_k46_large_requests.main.body.getD i (.Pass ⟨0, 0, 0, 0⟩)

abbrev s_is_integer : Stmt := top 17
abbrev s_is_name : Stmt := top 18
abbrev s_is_list : Stmt := top 19
abbrev s_is_row : Stmt := top 24
abbrev s_need_row : Stmt := top 25
abbrev s_need_width : Stmt := top 26
abbrev s_is_open : Stmt := top 27
abbrev s_row_of : Stmt := top 28
abbrev s_row_in : Stmt := top 29
abbrev s_is_card : Stmt := top 33
abbrev s_Pack_Dinit : Stmt := inClass (top 35) 0
abbrev s_Pack_Dlen : Stmt := inClass (top 35) 1
abbrev s_Pack_cards : Stmt := inClass (top 35) 5
abbrev s_Pack_width : Stmt := inClass (top 35) 6
abbrev s_need_pack : Stmt := top 36
abbrev s_parts_of : Stmt := top 44
abbrev s_size_in : Stmt := top 45
abbrev s_is_request : Stmt := top 46
abbrev s_need_request : Stmt := top 47
abbrev s_holes_in : Stmt := top 48
abbrev s_need_holes : Stmt := top 49
abbrev s_holds : Stmt := top 50
abbrev s_fits : Stmt := top 51
abbrev s_picks : Stmt := top 52
abbrev s_difference : Stmt := top 53
abbrev s_is_tray : Stmt := top 62
abbrev s_is_step : Stmt := top 63
abbrev s_is_program : Stmt := top 64
abbrev s_need_program : Stmt := top 65
abbrev s_needled : Stmt := top 66
abbrev s_landing : Stmt := top 67
abbrev s_fault : Stmt := top 68
abbrev s_nested : Stmt := top 69
abbrev s_steps_for : Stmt := top 70
abbrev s_program_for : Stmt := top 71
abbrev s_law_cell : Stmt := top 73
abbrev s_law_box : Stmt := top 74
abbrev s_law_take : Stmt := top 75
abbrev s_law_even : Stmt := top 76
abbrev s_law_names : Stmt := top 77
abbrev s_law_parts : Stmt := top 79
abbrev s_law_fits : Stmt := top 80
abbrev s_law_holes : Stmt := top 81
abbrev s_law_step : Stmt := top 82
abbrev s_law_landing : Stmt := top 83
abbrev s_law_is_number : Stmt := top 84
abbrev s_law_is_step : Stmt := top 85
abbrev s_law_is_program : Stmt := top 86
abbrev s_law_wide : Stmt := top 88
abbrev s_law_deep : Stmt := top 89
abbrev s_law_changed : Stmt := top 90
abbrev s_law_first : Stmt := top 91
abbrev s_law_rows : Stmt := top 92
abbrev s_law : Stmt := top 93
structure Txt (K : PySem.W.Frag) (mg : Str → Option Value) : Prop where
  g_DOUBLE : mg "DOUBLE" = some (.ref (He.ga K "DOUBLE"))
  g_LEAVES : mg "LEAVES" = some (.ref (He.ga K "LEAVES"))
  g_Pack : mg "Pack" = some (.ref (He.ga K "Pack"))
  g_SIMPLE : mg "SIMPLE" = some (.ref (He.ga K "SIMPLE"))
  g__law_box : mg "_law_box" = some (.ref (He.ga K "_law_box"))
  g__law_cell : mg "_law_cell" = some (.ref (He.ga K "_law_cell"))
  g__law_changed : mg "_law_changed" = some (.ref (He.ga K "_law_changed"))
  g__law_deep : mg "_law_deep" = some (.ref (He.ga K "_law_deep"))
  g__law_even : mg "_law_even" = some (.ref (He.ga K "_law_even"))
  g__law_first : mg "_law_first" = some (.ref (He.ga K "_law_first"))
  g__law_fits : mg "_law_fits" = some (.ref (He.ga K "_law_fits"))
  g__law_holes : mg "_law_holes" = some (.ref (He.ga K "_law_holes"))
  g__law_is_number : mg "_law_is_number" = some (.ref (He.ga K "_law_is_number"))
  g__law_is_program : mg "_law_is_program" = some (.ref (He.ga K "_law_is_program"))
  g__law_is_step : mg "_law_is_step" = some (.ref (He.ga K "_law_is_step"))
  g__law_landing : mg "_law_landing" = some (.ref (He.ga K "_law_landing"))
  g__law_names : mg "_law_names" = some (.ref (He.ga K "_law_names"))
  g__law_parts : mg "_law_parts" = some (.ref (He.ga K "_law_parts"))
  g__law_rows : mg "_law_rows" = some (.ref (He.ga K "_law_rows"))
  g__law_step : mg "_law_step" = some (.ref (He.ga K "_law_step"))
  g__law_take : mg "_law_take" = some (.ref (He.ga K "_law_take"))
  g__law_wide : mg "_law_wide" = some (.ref (He.ga K "_law_wide"))
  g_difference : mg "difference" = some (.ref (He.ga K "difference"))
  g_fault : mg "fault" = some (.ref (He.ga K "fault"))
  g_fits : mg "fits" = some (.ref (He.ga K "fits"))
  g_holds : mg "holds" = some (.ref (He.ga K "holds"))
  g_holes_in : mg "holes_in" = some (.ref (He.ga K "holes_in"))
  g_is_card : mg "is_card" = some (.ref (He.ga K "is_card"))
  g_is_integer : mg "is_integer" = some (.ref (He.ga K "is_integer"))
  g_is_list : mg "is_list" = some (.ref (He.ga K "is_list"))
  g_is_name : mg "is_name" = some (.ref (He.ga K "is_name"))
  g_is_open : mg "is_open" = some (.ref (He.ga K "is_open"))
  g_is_program : mg "is_program" = some (.ref (He.ga K "is_program"))
  g_is_request : mg "is_request" = some (.ref (He.ga K "is_request"))
  g_is_row : mg "is_row" = some (.ref (He.ga K "is_row"))
  g_is_step : mg "is_step" = some (.ref (He.ga K "is_step"))
  g_is_tray : mg "is_tray" = some (.ref (He.ga K "is_tray"))
  g_landing : mg "landing" = some (.ref (He.ga K "landing"))
  g_law : mg "law" = some (.ref (He.ga K "law"))
  g_need_holes : mg "need_holes" = some (.ref (He.ga K "need_holes"))
  g_need_pack : mg "need_pack" = some (.ref (He.ga K "need_pack"))
  g_need_program : mg "need_program" = some (.ref (He.ga K "need_program"))
  g_need_request : mg "need_request" = some (.ref (He.ga K "need_request"))
  g_need_row : mg "need_row" = some (.ref (He.ga K "need_row"))
  g_need_width : mg "need_width" = some (.ref (He.ga K "need_width"))
  g_needled : mg "needled" = some (.ref (He.ga K "needled"))
  g_nested : mg "nested" = some (.ref (He.ga K "nested"))
  g_parts_of : mg "parts_of" = some (.ref (He.ga K "parts_of"))
  g_picks : mg "picks" = some (.ref (He.ga K "picks"))
  g_program_for : mg "program_for" = some (.ref (He.ga K "program_for"))
  g_row_in : mg "row_in" = some (.ref (He.ga K "row_in"))
  g_row_of : mg "row_of" = some (.ref (He.ga K "row_of"))
  g_size_in : mg "size_in" = some (.ref (He.ga K "size_in"))
  g_steps_for : mg "steps_for" = some (.ref (He.ga K "steps_for"))
  n_all : mg "all" = none
  n_any : mg "any" = none
  n_bool : mg "bool" = none
  n_enumerate : mg "enumerate" = none
  n_int : mg "int" = none
  n_isinstance : mg "isinstance" = none
  n_len : mg "len" = none
  n_list : mg "list" = none
  n_max : mg "max" = none
  n_min : mg "min" = none
  n_range : mg "range" = none
  n_repr : mg "repr" = none
  n_str : mg "str" = none
  n_sum : mg "sum" = none
  n_tuple : mg "tuple" = none
  c_CLOSED : ∃ t, mg "CLOSED" = some (.str "o" t)
  c_DEEPEST : ∃ t, mg "DEEPEST" = some (.int 12 t)
  c_FIRST : ∃ t, mg "FIRST" = some (.int 0 t)
  c_LETTERS : ∃ t, mg "LETTERS" = some (.str "abcdefghijklmnopqrstuvwxyz" t)
  c_LONGEST_NAME : ∃ t, mg "LONGEST_NAME" = some (.int 8 t)
  c_MOST_CARDS : ∃ t, mg "MOST_CARDS" = some (.int 60 t)
  c_MOST_NESTED : ∃ t, mg "MOST_NESTED" = some (.int 5 t)
  c_MOST_PARTS : ∃ t, mg "MOST_PARTS" = some (.int 60 t)
  c_MOST_STEPS : ∃ t, mg "MOST_STEPS" = some (.int 60 t)
  c_OPEN : ∃ t, mg "OPEN" = some (.str "v" t)
  c_OTHERS : ∃ t, mg "OTHERS" = some (.int 2 t)
  c_PICKED : ∃ t, mg "PICKED" = some (.int 1 t)
  c_TRAYS : ∃ t, mg "TRAYS" = some (.int 8 t)
  c_WIDEST : ∃ t, mg "WIDEST" = some (.int 24 t)
  c_WIDEST_JUDGED_asks : ∃ t, mg "WIDEST_JUDGED_asks" = some (.int 10 t)
  c_WIDEST_JUDGED_programs : ∃ t, mg "WIDEST_JUDGED_programs" = some (.int 10 t)
  f_is_integer : ∃ fd, FunD K "is_integer" "is_integer" (defArgs s_is_integer) (defBody s_is_integer) (defScope s_is_integer) [] [] (He.ga K "is_integer") fd
  f_is_name : ∃ fd, FunD K "is_name" "is_name" (defArgs s_is_name) (defBody s_is_name) (defScope s_is_name) [] [] (He.ga K "is_name") fd
  f_is_list : ∃ fd, FunD K "is_list" "is_list" (defArgs s_is_list) (defBody s_is_list) (defScope s_is_list) [] [] (He.ga K "is_list") fd
  f_is_row : ∃ fd, FunD K "is_row" "is_row" (defArgs s_is_row) (defBody s_is_row) (defScope s_is_row) [] [] (He.ga K "is_row") fd
  f_need_row : ∃ fd, FunD K "need_row" "need_row" (defArgs s_need_row) (defBody s_need_row) (defScope s_need_row) [] [] (He.ga K "need_row") fd
  f_need_width : ∃ fd, FunD K "need_width" "need_width" (defArgs s_need_width) (defBody s_need_width) (defScope s_need_width) [] [] (He.ga K "need_width") fd
  f_is_open : ∃ fd, FunD K "is_open" "is_open" (defArgs s_is_open) (defBody s_is_open) (defScope s_is_open) [] [] (He.ga K "is_open") fd
  f_row_of : ∃ fd, FunD K "row_of" "row_of" (defArgs s_row_of) (defBody s_row_of) (defScope s_row_of) [] [] (He.ga K "row_of") fd
  f_row_in : ∃ fd, FunD K "row_in" "row_in" (defArgs s_row_in) (defBody s_row_in) (defScope s_row_in) [] [] (He.ga K "row_in") fd
  f_is_card : ∃ fd, FunD K "is_card" "is_card" (defArgs s_is_card) (defBody s_is_card) (defScope s_is_card) [] [] (He.ga K "is_card") fd
  f_Pack_Dinit : ∃ fd, FunD K "__init__" "Pack.__init__" (defArgs s_Pack_Dinit) (defBody s_Pack_Dinit) (defScope s_Pack_Dinit) [] [] (He.ma K (He.ga K "Pack") "__init__") fd
  f_Pack_Dlen : ∃ fd, FunD K "__len__" "Pack.__len__" (defArgs s_Pack_Dlen) (defBody s_Pack_Dlen) (defScope s_Pack_Dlen) [] [] (He.ma K (He.ga K "Pack") "__len__") fd
  m_Pack_Dlen : Meth K (He.ga K "Pack") "__len__" (He.ma K (He.ga K "Pack") "__len__")
  f_Pack_cards : ∃ fd, FunD K "cards" "Pack.cards" (defArgs s_Pack_cards) (defBody s_Pack_cards) (defScope s_Pack_cards) [] [] (He.ma K (He.ga K "Pack") "cards") fd
  m_Pack_cards : Meth K (He.ga K "Pack") "cards" (He.ma K (He.ga K "Pack") "cards")
  f_Pack_width : ∃ fd, FunD K "width" "Pack.width" (defArgs s_Pack_width) (defBody s_Pack_width) (defScope s_Pack_width) [] [] (He.ma K (He.ga K "Pack") "width") fd
  m_Pack_width : Meth K (He.ga K "Pack") "width" (He.ma K (He.ga K "Pack") "width")
  f_need_pack : ∃ fd, FunD K "need_pack" "need_pack" (defArgs s_need_pack) (defBody s_need_pack) (defScope s_need_pack) [] [] (He.ga K "need_pack") fd
  f_parts_of : ∃ fd, FunD K "parts_of" "parts_of" (defArgs s_parts_of) (defBody s_parts_of) (defScope s_parts_of) [] [] (He.ga K "parts_of") fd
  f_size_in : ∃ fd, FunD K "size_in" "size_in" (defArgs s_size_in) (defBody s_size_in) (defScope s_size_in) [] [] (He.ga K "size_in") fd
  f_is_request : ∃ fd, FunD K "is_request" "is_request" (defArgs s_is_request) (defBody s_is_request) (defScope s_is_request) [] [] (He.ga K "is_request") fd
  f_need_request : ∃ fd, FunD K "need_request" "need_request" (defArgs s_need_request) (defBody s_need_request) (defScope s_need_request) [] [] (He.ga K "need_request") fd
  f_holes_in : ∃ fd, FunD K "holes_in" "holes_in" (defArgs s_holes_in) (defBody s_holes_in) (defScope s_holes_in) [] [] (He.ga K "holes_in") fd
  f_need_holes : ∃ fd, FunD K "need_holes" "need_holes" (defArgs s_need_holes) (defBody s_need_holes) (defScope s_need_holes) [] [] (He.ga K "need_holes") fd
  f_holds : ∃ fd, FunD K "holds" "holds" (defArgs s_holds) (defBody s_holds) (defScope s_holds) [] [] (He.ga K "holds") fd
  f_fits : ∃ fd, FunD K "fits" "fits" (defArgs s_fits) (defBody s_fits) (defScope s_fits) [] [] (He.ga K "fits") fd
  f_picks : ∃ fd, FunD K "picks" "picks" (defArgs s_picks) (defBody s_picks) (defScope s_picks) [] [] (He.ga K "picks") fd
  f_difference : ∃ fd, FunD K "difference" "difference" (defArgs s_difference) (defBody s_difference) (defScope s_difference) [] [] (He.ga K "difference") fd
  f_is_tray : ∃ fd, FunD K "is_tray" "is_tray" (defArgs s_is_tray) (defBody s_is_tray) (defScope s_is_tray) [] [] (He.ga K "is_tray") fd
  f_is_step : ∃ fd, FunD K "is_step" "is_step" (defArgs s_is_step) (defBody s_is_step) (defScope s_is_step) [] [] (He.ga K "is_step") fd
  f_is_program : ∃ fd, FunD K "is_program" "is_program" (defArgs s_is_program) (defBody s_is_program) (defScope s_is_program) [] [] (He.ga K "is_program") fd
  f_need_program : ∃ fd, FunD K "need_program" "need_program" (defArgs s_need_program) (defBody s_need_program) (defScope s_need_program) [] [] (He.ga K "need_program") fd
  f_needled : ∃ fd, FunD K "needled" "needled" (defArgs s_needled) (defBody s_needled) (defScope s_needled) [] [] (He.ga K "needled") fd
  f_landing : ∃ fd, FunD K "landing" "landing" (defArgs s_landing) (defBody s_landing) (defScope s_landing) [] [] (He.ga K "landing") fd
  f_fault : ∃ fd, FunD K "fault" "fault" (defArgs s_fault) (defBody s_fault) (defScope s_fault) [] [] (He.ga K "fault") fd
  f_nested : ∃ fd, FunD K "nested" "nested" (defArgs s_nested) (defBody s_nested) (defScope s_nested) [] [] (He.ga K "nested") fd
  f_steps_for : ∃ fd, FunD K "steps_for" "steps_for" (defArgs s_steps_for) (defBody s_steps_for) (defScope s_steps_for) [] [] (He.ga K "steps_for") fd
  f_program_for : ∃ fd, FunD K "program_for" "program_for" (defArgs s_program_for) (defBody s_program_for) (defScope s_program_for) [] [] (He.ga K "program_for") fd
  f_law_cell : ∃ fd, FunD K "_law_cell" "_law_cell" (defArgs s_law_cell) (defBody s_law_cell) (defScope s_law_cell) [] [] (He.ga K "_law_cell") fd
  f_law_box : ∃ fd, FunD K "_law_box" "_law_box" (defArgs s_law_box) (defBody s_law_box) (defScope s_law_box) [] [] (He.ga K "_law_box") fd
  f_law_take : ∃ fd, FunD K "_law_take" "_law_take" (defArgs s_law_take) (defBody s_law_take) (defScope s_law_take) [] [] (He.ga K "_law_take") fd
  f_law_even : ∃ fd, FunD K "_law_even" "_law_even" (defArgs s_law_even) (defBody s_law_even) (defScope s_law_even) [] [] (He.ga K "_law_even") fd
  f_law_names : ∃ fd, FunD K "_law_names" "_law_names" (defArgs s_law_names) (defBody s_law_names) (defScope s_law_names) [] [] (He.ga K "_law_names") fd
  f_law_parts : ∃ fd, FunD K "_law_parts" "_law_parts" (defArgs s_law_parts) (defBody s_law_parts) (defScope s_law_parts) [] [] (He.ga K "_law_parts") fd
  f_law_fits : ∃ fd, FunD K "_law_fits" "_law_fits" (defArgs s_law_fits) (defBody s_law_fits) (defScope s_law_fits) [] [] (He.ga K "_law_fits") fd
  f_law_holes : ∃ fd, FunD K "_law_holes" "_law_holes" (defArgs s_law_holes) (defBody s_law_holes) (defScope s_law_holes) [] [] (He.ga K "_law_holes") fd
  f_law_step : ∃ fd, FunD K "_law_step" "_law_step" (defArgs s_law_step) (defBody s_law_step) (defScope s_law_step) [] [] (He.ga K "_law_step") fd
  f_law_landing : ∃ fd, FunD K "_law_landing" "_law_landing" (defArgs s_law_landing) (defBody s_law_landing) (defScope s_law_landing) [] [] (He.ga K "_law_landing") fd
  f_law_is_number : ∃ fd, FunD K "_law_is_number" "_law_is_number" (defArgs s_law_is_number) (defBody s_law_is_number) (defScope s_law_is_number) [] [] (He.ga K "_law_is_number") fd
  f_law_is_step : ∃ fd, FunD K "_law_is_step" "_law_is_step" (defArgs s_law_is_step) (defBody s_law_is_step) (defScope s_law_is_step) [] [] (He.ga K "_law_is_step") fd
  f_law_is_program : ∃ fd, FunD K "_law_is_program" "_law_is_program" (defArgs s_law_is_program) (defBody s_law_is_program) (defScope s_law_is_program) [] [] (He.ga K "_law_is_program") fd
  f_law_wide : ∃ fd, FunD K "_law_wide" "_law_wide" (defArgs s_law_wide) (defBody s_law_wide) (defScope s_law_wide) [] [] (He.ga K "_law_wide") fd
  f_law_deep : ∃ fd, FunD K "_law_deep" "_law_deep" (defArgs s_law_deep) (defBody s_law_deep) (defScope s_law_deep) [] [] (He.ga K "_law_deep") fd
  f_law_changed : ∃ fd, FunD K "_law_changed" "_law_changed" (defArgs s_law_changed) (defBody s_law_changed) (defScope s_law_changed) [] [] (He.ga K "_law_changed") fd
  f_law_first : ∃ fd, FunD K "_law_first" "_law_first" (defArgs s_law_first) (defBody s_law_first) (defScope s_law_first) [] [] (He.ga K "_law_first") fd
  f_law_rows : ∃ fd, FunD K "_law_rows" "_law_rows" (defArgs s_law_rows) (defBody s_law_rows) (defScope s_law_rows) [] [] (He.ga K "_law_rows") fd
  f_law : ∃ fd, FunD K "law" "law" (defArgs s_law) (defBody s_law) (defScope s_law) [] [] (He.ga K "law") fd
  pk : PkC K
  mk_Pack : Mk K (He.ga K "Pack") (He.ma K (He.ga K "Pack") "__init__")
  ak : AskC K
theorem Txt.cl_Pack {K : PySem.W.Frag} {mg : Str → Option Value} (T : Txt K mg) : Cls K (He.ga K "Pack") := T.pk.cl
section
variable {P : Program} {w : World} {K : PySem.W.Frag} {mg : Str → Option Value} {base : Heap}
-- names of is_integer: N_is_integer
theorem sc_is_integer : FnScope N_is_integer ["value", "low", "high"] (defScope s_is_integer) := ⟨rfl, rfl, rfl, by decide +kernel, rfl, by decide +kernel, by decide +kernel⟩
theorem ok_is_integer (T : Txt K mg) : Cal P w K mg base CX0 1 (He.ga K "is_integer") ["value", "low", "high"] (sp_is_integer K) := by
  obtain ⟨fd, F⟩ := T.f_is_integer
  refine ⟨fd, ?_, F.bindsN fun _ _ _ _ _ _ us hl => match us, hl with | [_, _, _], _ => rfl, F.kp⟩
  refine F.ok sc_is_integer (fun vs H Q E h => pu_len (fun ds r ⟨_, _, _, e, _⟩ => by rw [e]; rfl) h) (fun cdv A outer s H vs Q E hr h => ⟨(t_is_integer K), PSs.nox ?_, pure_is_integer h⟩)
  exact (pss_one (ps_ret (pe_and (pe_callB call_isi (by rfl) T.n_isinstance bt_isinstance (pa_cons (pv 0) (pa_cons (pe_bltn (v := .ty "int") (by rfl) T.n_int bt_int rfl) pa_nil))) (pe_and (pe_not (pe_callB call_isi (by rfl) T.n_isinstance bt_isinstance (pa_cons (pv 0) (pa_cons (pe_bltn (v := .ty "bool") (by rfl) T.n_bool bt_bool rfl) pa_nil)))) (pe_one (pe_chain op_le op_le (pv 1) (pv 0) (pv 2)))))))
-- names of is_name: N_is_name
theorem sc_is_name : FnScope N_is_name ["value"] (defScope s_is_name) := ⟨rfl, rfl, rfl, by decide +kernel, rfl, by decide +kernel, by decide +kernel⟩
theorem ok_is_name (T : Txt K mg) : Cal P w K mg base CX0 1 (He.ga K "is_name") ["value"] (sp_is_name K) := by
  obtain ⟨fd, F⟩ := T.f_is_name
  obtain ⟨_, c_LETTERS⟩ := T.c_LETTERS
  obtain ⟨_, c_LONGEST_NAME⟩ := T.c_LONGEST_NAME
  refine ⟨fd, ?_, F.bindsN fun _ _ _ _ _ _ us hl => match us, hl with | [_], _ => rfl, F.kp⟩
  refine F.ok sc_is_name (fun vs H Q E h => pu_len (fun ds r ⟨_, e, _⟩ => by rw [e]; rfl) h) (fun cdv A outer s H vs Q E hr h => ⟨(t_is_name K), PSs.nox ?_, pure_is_name h⟩)
  exact (pss_cons (ps_if (PW.pt (pw_or (pt_not (pt_val (pe_callB call_isi (by rfl) T.n_isinstance bt_isinstance (pa_cons (pv 0) (pa_cons (pe_bltn (v := .ty "str") (by rfl) T.n_str bt_str rfl) pa_nil))))) (pw_or1 (pt_not (pt_chain op_le op_le pe_int (pe_callB call_lenA (by rfl) T.n_len bt_len (pa_cons (pv 0) pa_nil)) (pe_glob rfl c_LONGEST_NAME ⟨_, rfl⟩)))))) (pss_one (ps_ret pe_bl)) pss_nil)
  (pss_one (ps_ret (pe_callB (cr_all rfl) (by rfl) T.n_all bt_all (pa_cons (pe_lc (own := [("sign", 1)]) (g := (gName 1)) (tt := tYes) rfl sc_is_name.nd (pi_str (pv 0)) (blkOk_by (N := N_is_name) (own := [("sign", 1)]) (by first | decide +kernel | kernel_rfl)) (fun _ _ _ _ _ => (pg_name (i := 1) sc_is_name.nd rfl (by first | exact Or.inl rfl | exact Or.inr rfl))) (fun _ _ _ _ _ => pts_nil) (fun _ _ _ _ _ => (pe_cmpR op_inS (pv 1) (pe_glob rfl c_LETTERS ⟨_, rfl⟩) (by rfl)))) pa_nil)))))
-- names of is_list: N_is_list
theorem sc_is_list : FnScope N_is_list ["value", "most"] (defScope s_is_list) := ⟨rfl, rfl, rfl, by decide +kernel, rfl, by decide +kernel, by decide +kernel⟩
theorem ok_is_list (T : Txt K mg) : Cal P w K mg base CX0 1 (He.ga K "is_list") ["value", "most"] (sp_is_list K) := by
  obtain ⟨fd, F⟩ := T.f_is_list
  refine ⟨fd, ?_, F.bindsN fun _ _ _ _ _ _ us hl => match us, hl with | [_, _], _ => rfl, F.kp⟩
  refine F.ok sc_is_list (fun vs H Q E h => pu_len (fun ds r ⟨_, _, _, e, _⟩ => by rw [e]; rfl) h) (fun cdv A outer s H vs Q E hr h => ⟨(t_is_list K), PSs.nox ?_, pure_is_list h⟩)
  exact (pss_one (ps_ret (pe_and (pe_callB call_isiT (by rfl) T.n_isinstance bt_isinstance (pa_cons (pv 0) (pa_cons (pe_tup (pa_cons (pe_bltn (v := .ty "list") (by rfl) T.n_list bt_list rfl) (pa_cons (pe_bltn (v := .ty "tuple") (by rfl) T.n_tuple bt_tuple rfl) pa_nil))) pa_nil))) (pe_one (pe_cmpR op_le (pe_callB call_lenA (by rfl) T.n_len bt_len (pa_cons (pv 0) pa_nil)) (pv 1) (nomark _))))))
-- names of is_row: N_is_row
theorem sc_is_row : FnScope N_is_row ["value"] (defScope s_is_row) := ⟨rfl, rfl, rfl, by decide +kernel, rfl, by decide +kernel, by decide +kernel⟩
theorem ok_is_row (T : Txt K mg) : Cal P w K mg base CX0 1 (He.ga K "is_row") ["value"] (sp_is_row K) := by
  obtain ⟨fd, F⟩ := T.f_is_row
  obtain ⟨_, c_CLOSED⟩ := T.c_CLOSED
  obtain ⟨_, c_OPEN⟩ := T.c_OPEN
  obtain ⟨_, c_WIDEST⟩ := T.c_WIDEST
  refine ⟨fd, ?_, F.bindsN fun _ _ _ _ _ _ us hl => match us, hl with | [_], _ => rfl, F.kp⟩
  refine F.ok sc_is_row (fun vs H Q E h => pu_len (fun ds r ⟨_, e, _⟩ => by rw [e]; rfl) h) (fun cdv A outer s H vs Q E hr h => ⟨(t_is_row K), PSs.nox ?_, pure_is_row h⟩)
  exact (pss_cons (ps_if (PW.pt (pw_or (pt_not (pt_val (pe_callB call_isi (by rfl) T.n_isinstance bt_isinstance (pa_cons (pv 0) (pa_cons (pe_bltn (v := .ty "str") (by rfl) T.n_str bt_str rfl) pa_nil))))) (pw_or1 (pt_not (pt_chain op_le op_le pe_int (pe_callB call_lenA (by rfl) T.n_len bt_len (pa_cons (pv 0) pa_nil)) (pe_glob rfl c_WIDEST ⟨_, rfl⟩)))))) (pss_one (ps_ret pe_bl)) pss_nil)
  (pss_one (ps_ret (pe_callB (cr_all rfl) (by rfl) T.n_all bt_all (pa_cons (pe_lc (own := [("sign", 1)]) (g := (gName 1)) (tt := tYes) rfl sc_is_row.nd (pi_str (pv 0)) (blkOk_by (N := N_is_row) (own := [("sign", 1)]) (by first | decide +kernel | kernel_rfl)) (fun _ _ _ _ _ => (pg_name (i := 1) sc_is_row.nd rfl (by first | exact Or.inl rfl | exact Or.inr rfl))) (fun _ _ _ _ _ => pts_nil) (fun _ _ _ _ _ => (pe_cmpR op_in_seq (pv 1) (pe_tup (pa_cons (pe_glob rfl c_CLOSED ⟨_, rfl⟩) (pa_cons (pe_glob rfl c_OPEN ⟨_, rfl⟩) pa_nil))) (by rfl)))) pa_nil)))))
-- names of need_row: N_need_row
theorem sc_need_row : FnScope N_need_row ["row"] (defScope s_need_row) := ⟨rfl, rfl, rfl, by decide +kernel, rfl, by decide +kernel, by decide +kernel⟩
theorem ok_need_row (T : Txt K mg) : Cal P w K mg base CX0 2 (He.ga K "need_row") ["row"] (sp_need_row K) := by
  obtain ⟨fd, F⟩ := T.f_need_row
  obtain ⟨fd_is_row, G_is_row, b_is_row, k_is_row⟩ := (ok_is_row (P := P) (w := w) (base := base) T).ex
  refine ⟨fd, ?_, F.bindsN fun _ _ _ _ _ _ us hl => match us, hl with | [_], _ => rfl, F.kp⟩
  refine F.ok sc_need_row (fun vs H Q E h => pu_len (fun ds r ⟨_, e, _⟩ => by rw [e]; rfl) h) (fun cdv A outer s H vs Q E hr h => ⟨(t_need_row K), PSs.nox ?_, pure_need_row h⟩)
  exact (pss_one (ps_if (pt_not (pt_val (pe_call G_is_row (hr.mono (by decide)) (by rfl) T.g_is_row k_is_row b_is_row .nil pass0 (pa_cons (pv 0) pa_nil)))) (pss_one ps_never) pss_nil))
-- names of need_width: N_need_width
theorem sc_need_width : FnScope N_need_width ["width", "most"] (defScope s_need_width) := ⟨rfl, rfl, rfl, by decide +kernel, rfl, by decide +kernel, by decide +kernel⟩
theorem ok_need_width (T : Txt K mg) : Cal P w K mg base CX0 2 (He.ga K "need_width") ["width", "most"] (sp_need_width K) := by
  obtain ⟨fd, F⟩ := T.f_need_width
  obtain ⟨fd_is_integer, G_is_integer, b_is_integer, k_is_integer⟩ := (ok_is_integer (P := P) (w := w) (base := base) T).ex
  refine ⟨fd, ?_, F.bindsN fun _ _ _ _ _ _ us hl => match us, hl with | [_, _], _ => rfl, F.kp⟩
  refine F.ok sc_need_width (fun vs H Q E h => pu_len (fun ds r ⟨_, _, e, _⟩ => by rw [e]; rfl) h) (fun cdv A outer s H vs Q E hr h => ⟨(t_need_width K), PSs.nox ?_, pure_need_width h⟩)
  exact (pss_one (ps_if (pt_not (pt_val (pe_call G_is_integer (hr.mono (by decide)) (by rfl) T.g_is_integer k_is_integer b_is_integer .nil pass0 (pa_cons (pv 0) (pa_cons pe_int (pa_cons (pv 1) pa_nil)))))) (pss_one ps_never) pss_nil))
-- names of is_open: N_is_open
theorem sc_is_open : FnScope N_is_open ["row", "hole"] (defScope s_is_open) := ⟨rfl, rfl, rfl, by decide +kernel, rfl, by decide +kernel, by decide +kernel⟩
theorem ok_is_open (T : Txt K mg) : Cal P w K mg base CX0 1 (He.ga K "is_open") ["row", "hole"] (sp_is_open K) := by
  obtain ⟨fd, F⟩ := T.f_is_open
  obtain ⟨_, c_OPEN⟩ := T.c_OPEN
  refine ⟨fd, ?_, F.bindsN fun _ _ _ _ _ _ us hl => match us, hl with | [_, _], _ => rfl, F.kp⟩
  refine F.ok sc_is_open (fun vs H Q E h => pu_len (fun ds r ⟨_, _, _, e, _⟩ => by rw [e]; rfl) h) (fun cdv A outer s H vs Q E hr h => ⟨(t_is_open K), PSs.nox ?_, pure_is_open h⟩)
  exact (pss_one (ps_ret (pe_cmpR op_eq (pe_ix ix_str (pv 0) (pv 1) (fun _ _ => rfl)) (pe_glob rfl c_OPEN ⟨_, rfl⟩) (nomark _))))
-- names of row_of: N_row_of
theorem sc_row_of : FnScope N_row_of ["signs"] (defScope s_row_of) := ⟨rfl, rfl, rfl, by decide +kernel, rfl, by decide +kernel, by decide +kernel⟩
theorem ok_row_of (T : Txt K mg) : Cal P w K mg base CX0 1 (He.ga K "row_of") ["signs"] (sp_row_of K) := by
  obtain ⟨fd, F⟩ := T.f_row_of
  obtain ⟨_, c_CLOSED⟩ := T.c_CLOSED
  obtain ⟨_, c_OPEN⟩ := T.c_OPEN
  refine ⟨fd, ?_, F.bindsN fun _ _ _ _ _ _ us hl => match us, hl with | [_], _ => rfl, F.kp⟩
  refine F.ok sc_row_of (fun vs H Q E h => pu_len (fun ds r ⟨_, e, _⟩ => by rw [e]; rfl) h) (fun cdv A outer s H vs Q E hr h => ⟨(t_row_of K), PSs.nox ?_, pure_row_of h⟩)
  exact (pss_one (ps_ret (pe_bm PySem.F.plainAttrs_str PySem.F.slot_str_join PySem.F.type_str_join mt_joinR pe_str (pa_cons (pe_lc (own := [("sign", 1)]) (g := (gName 1)) (tt := tYes) rfl sc_row_of.nd (pi_list (pv 0)) (blkOk_by (N := N_row_of) (own := [("sign", 1)]) (by first | decide +kernel | kernel_rfl)) (fun _ _ _ _ _ => (pg_name (i := 1) sc_row_of.nd rfl (by first | exact Or.inl rfl | exact Or.inr rfl))) (fun _ _ _ _ _ => pts_nil) (fun _ _ _ _ _ => (pe_ifExp (pt_val (pv 1)) (pe_glob rfl c_OPEN ⟨_, rfl⟩) (pe_glob rfl c_CLOSED ⟨_, rfl⟩)))) pa_nil))))
-- names of row_in: N_row_in
theorem sc_row_in : FnScope N_row_in ["width", "number"] (defScope s_row_in) := ⟨rfl, rfl, rfl, by decide +kernel, rfl, by decide +kernel, by decide +kernel⟩
theorem ok_row_in (T : Txt K mg) : Cal P w K mg base CX0 2 (He.ga K "row_in") ["width", "number"] (sp_row_in K) := by
  obtain ⟨fd, F⟩ := T.f_row_in
  obtain ⟨fd_row_of, G_row_of, b_row_of, k_row_of⟩ := (ok_row_of (P := P) (w := w) (base := base) T).ex
  refine ⟨fd, ?_, F.bindsN fun _ _ _ _ _ _ us hl => match us, hl with | [_, _], _ => rfl, F.kp⟩
  refine F.ok sc_row_in (fun vs H Q E h => pu_len (fun ds r ⟨_, _, e, _⟩ => by rw [e]; rfl) h) (fun cdv A outer s H vs Q E hr h => ⟨(t_row_in K), PSs.nox ?_, pure_row_in h⟩)
  exact (pss_one (ps_ret (pe_call G_row_of (hr.mono (by decide)) (by rfl) T.g_row_of k_row_of b_row_of .nil pass0 (pa_cons (pe_lc (own := [("hole", 2)]) (g := (gName 2)) (tt := tYes) rfl sc_row_in.nd (pi_range1 (by rfl) T.n_range (pa_cons (pv 0) pa_nil)) (blkOk_by (N := N_row_in) (own := [("hole", 2)]) (by first | decide +kernel | kernel_rfl)) (fun _ _ _ _ _ => (pg_name (i := 2) sc_row_in.nd rfl (by first | exact Or.inl rfl | exact Or.inr rfl))) (fun _ _ _ _ _ => pts_nil) (fun _ _ _ _ _ => (pe_cmpR op_eq (pe_op op_and (pe_op op_shr (pv 1) (pe_op op_sub (pe_op op_sub (pv 0) pe_int) (pv 2))) pe_int) pe_int (nomark _)))) pa_nil))))
-- names of is_card: N_is_card
theorem sc_is_card : FnScope N_is_card ["value"] (defScope s_is_card) := ⟨rfl, rfl, rfl, by decide +kernel, rfl, by decide +kernel, by decide +kernel⟩
theorem ok_is_card (T : Txt K mg) : Cal P w K mg base CX0 2 (He.ga K "is_card") ["value"] (sp_is_card K) := by
  obtain ⟨fd, F⟩ := T.f_is_card
  obtain ⟨fd_is_row, G_is_row, b_is_row, k_is_row⟩ := (ok_is_row (P := P) (w := w) (base := base) T).ex
  obtain ⟨fd_is_name, G_is_name, b_is_name, k_is_name⟩ := (ok_is_name (P := P) (w := w) (base := base) T).ex
  refine ⟨fd, ?_, F.bindsN fun _ _ _ _ _ _ us hl => match us, hl with | [_], _ => rfl, F.kp⟩
  refine F.ok sc_is_card (fun vs H Q E h => pu_len (fun ds r ⟨_, _, e, _⟩ => by rw [e]; rfl) h) (fun cdv A outer s H vs Q E hr h => ⟨(t_is_card K), PSs.nox ?_, pure_is_card h⟩)
  exact (pss_one (ps_ret (pe_and (pe_callB call_isi (by rfl) T.n_isinstance bt_isinstance (pa_cons (pv 0) (pa_cons (pe_bltn (v := .ty "tuple") (by rfl) T.n_tuple bt_tuple rfl) pa_nil))) (pe_and (pe_cmpR op_eq (pe_callB call_lenA (by rfl) T.n_len bt_len (pa_cons (pv 0) pa_nil)) pe_int (nomark _)) (pe_and (pe_call G_is_name (hr.mono (by decide)) (by rfl) T.g_is_name k_is_name b_is_name .nil pass0 (pa_cons (pe_ix ix_tup (pv 0) pe_int (fun _ _ => rfl)) pa_nil)) (pe_one (pe_call G_is_row (hr.mono (by decide)) (by rfl) T.g_is_row k_is_row b_is_row .nil pass0 (pa_cons (pe_ix ix_tup (pv 0) pe_int (fun _ _ => rfl)) pa_nil))))))))
-- names of Pack.__init__: N_Pack_Dinit
theorem sc_Pack_Dinit : FnScope N_Pack_Dinit ["self", "cards"] (defScope s_Pack_Dinit) := ⟨rfl, rfl, rfl, by decide +kernel, rfl, by decide +kernel, by decide +kernel⟩
theorem ok_Pack_Dinit (T : Txt K mg) : Cal P w K mg base CX0 3 (He.ma K (He.ga K "Pack") "__init__") ["self", "cards"] (sp_Pack_Dinit K) := by
  obtain ⟨fd, F⟩ := T.f_Pack_Dinit
  obtain ⟨fd_is_card, G_is_card, b_is_card, k_is_card⟩ := (ok_is_card (P := P) (w := w) (base := base) T).ex
  obtain ⟨fd_is_list, G_is_list, b_is_list, k_is_list⟩ := (ok_is_list (P := P) (w := w) (base := base) T).ex
  obtain ⟨_, c_MOST_CARDS⟩ := T.c_MOST_CARDS
  refine ⟨fd, ?_, F.bindsN fun _ _ _ _ _ _ us hl => match us, hl with | [_, _], _ => rfl, F.kp⟩
  refine F.ok sc_Pack_Dinit (fun vs H Q E h => by obtain ⟨_, _, _, _, _, rfl, _⟩ := h; rfl) (fun cdv A outer s H vs Q E hr h => ⟨(tFrzE (t_Pack_Dinit K)), PSs.nox ?_, pure_Pack_Dinit T.pk h⟩)
  have hu : (A.deeper (envOfC "Pack.__init__" (defScope s_Pack_Dinit) s.heap.objs.size (He.ma K (He.ga K "Pack") "__init__") cdv)).units + 1 < cLine := by have := hr.un; omega
  exact (pss_frzE (pss_cons (ps_if (pt_not (pt_val (pe_call G_is_list (hr.mono (by decide)) (by rfl) T.g_is_list k_is_list b_is_list .nil pass0 (pa_cons (pv 1) (pa_cons (pe_glob rfl c_MOST_CARDS ⟨_, rfl⟩) pa_nil))))) (pss_one ps_never) pss_nil)
  (pss_cons (ps_fld (pv 0) pe_dnewK rfl)
  (pss_one (ps_for PassesOwn.never rfl (pi_list (pv 1)) (pg_name (i := 2) sc_Pack_Dinit.nd rfl (by first | exact Or.inl rfl | exact Or.inr rfl)) (pss_cons (ps_if (pt_not (pt_val (pe_call G_is_card (hr.mono (by decide)) (by rfl) T.g_is_card k_is_card b_is_card .nil pass0 (pa_cons (pv 2) pa_nil)))) (pss_one ps_never) pss_nil)
  (pss_cons (ps_asg (pv 2) (pg_tup rfl (pgs_cons (pg_name (i := 3) sc_Pack_Dinit.nd rfl (by first | exact Or.inl rfl | exact Or.inr rfl)) (pgs_cons (pg_name (i := 4) sc_Pack_Dinit.nd rfl (by first | exact Or.inl rfl | exact Or.inr rfl)) pgs_nil))))
  (pss_cons (ps_if (pt_cmp (pc_din hu (pv 3) (pe_fld (pv 0) rfl))) (pss_one ps_never) pss_nil)
  (pss_cons (ps_if (pt_cmpR op_ne (pe_callB call_lenA (by rfl) T.n_len bt_len (pa_cons (pv 4) pa_nil)) (pe_callB call_lenA (by rfl) T.n_len bt_len (pa_cons (pe_ix ix_tup (pe_ix ix_list (pv 1) pe_int (fun _ _ => rfl)) pe_int (fun _ _ => rfl)) pa_nil)) (nomark _)) (pss_one ps_never) pss_nil)
  (pss_one (ps_dput hu (pe_fld (pv 0) rfl) (pv 3) (pv 4) rfl)))))))))))
-- names of Pack.__len__: N_Pack_Dlen
theorem sc_Pack_Dlen : FnScope N_Pack_Dlen ["self"] (defScope s_Pack_Dlen) := ⟨rfl, rfl, rfl, by decide +kernel, rfl, by decide +kernel, by decide +kernel⟩
theorem ok_Pack_Dlen (T : Txt K mg) : Cal P w K mg base CX0 1 (He.ma K (He.ga K "Pack") "__len__") ["self"] (sp_Pack_Dlen K) := by
  obtain ⟨fd, F⟩ := T.f_Pack_Dlen
  refine ⟨fd, ?_, F.bindsN fun _ _ _ _ _ _ us hl => match us, hl with | [_], _ => rfl, F.kp⟩
  refine F.ok sc_Pack_Dlen (fun vs H Q E h => pu_len (fun ds r ⟨_, e, _⟩ => by rw [e]; rfl) h) (fun cdv A outer s H vs Q E hr h => ⟨(t_Pack_Dlen K), PSs.nox ?_, pure_Pack_Dlen T.pk h⟩)
  exact (pss_one (ps_ret (pe_callB call_lenF (by rfl) T.n_len bt_len (pa_cons (pe_fld (pv 0) rfl) pa_nil))))
-- names of Pack.cards: N_Pack_cards
theorem sc_Pack_cards : FnScope N_Pack_cards ["self"] (defScope s_Pack_cards) := ⟨rfl, rfl, rfl, by decide +kernel, rfl, by decide +kernel, by decide +kernel⟩
theorem ok_Pack_cards (T : Txt K mg) : Cal P w K mg base CX0 1 (He.ma K (He.ga K "Pack") "cards") ["self"] (sp_Pack_cards K) := by
  obtain ⟨fd, F⟩ := T.f_Pack_cards
  refine ⟨fd, ?_, F.bindsN fun _ _ _ _ _ _ us hl => match us, hl with | [_], _ => rfl, F.kp⟩
  refine F.ok sc_Pack_cards (fun vs H Q E h => pu_len (fun ds r ⟨_, e, _⟩ => by rw [e]; rfl) h) (fun cdv A outer s H vs Q E hr h => ⟨(t_Pack_cards K), PSs.nox ?_, pure_Pack_cards T.pk h⟩)
  exact (pss_one (ps_ret (pe_itemsF rfl (pe_fld (pv 0) rfl) (by rfl) T.n_list bt_list)))
-- names of Pack.width: N_Pack_width
theorem sc_Pack_width : FnScope N_Pack_width ["self"] (defScope s_Pack_width) := ⟨rfl, rfl, rfl, by decide +kernel, rfl, by decide +kernel, by decide +kernel⟩
theorem ok_Pack_width (T : Txt K mg) : Cal P w K mg base CX0 1 (He.ma K (He.ga K "Pack") "width") ["self"] (sp_Pack_width K) := by
  obtain ⟨fd, F⟩ := T.f_Pack_width
  refine ⟨fd, ?_, F.bindsN fun _ _ _ _ _ _ us hl => match us, hl with | [_], _ => rfl, F.kp⟩
  refine F.ok sc_Pack_width (fun vs H Q E h => pu_len (fun ds r ⟨_, e, _⟩ => by rw [e]; rfl) h) (fun cdv A outer s H vs Q E hr h => ⟨(t_Pack_width K), PSs.nox ?_, pure_Pack_width T.pk h⟩)
  exact (pss_one (ps_ret (pe_callBK (cr_maxD rfl ⟨_, hr⟩) (by rfl) T.n_max bt_max (pa_cons (pe_lc (own := [("row", 1)]) (g := (gName 1)) (tt := tYes) rfl sc_Pack_width.nd (pi_values (pe_fld (pv 0) rfl)) (blkOk_by (N := N_Pack_width) (own := [("row", 1)]) (by first | decide +kernel | kernel_rfl)) (fun _ _ _ _ _ => (pg_name (i := 1) sc_Pack_width.nd rfl (by first | exact Or.inl rfl | exact Or.inr rfl))) (fun _ _ _ _ _ => pts_nil) (fun _ _ _ _ _ => (pe_callB call_lenA (by rfl) T.n_len bt_len (pa_cons (pv 1) pa_nil)))) pa_nil) (pk_cons pe_int pk_nil))))
-- names of need_pack: N_need_pack
theorem sc_need_pack : FnScope N_need_pack ["pack"] (defScope s_need_pack) := ⟨rfl, rfl, rfl, by decide +kernel, rfl, by decide +kernel, by decide +kernel⟩
theorem ok_need_pack (T : Txt K mg) : Cal P w K mg base CX0 1 (He.ga K "need_pack") ["pack"] (sp_need_pack K) := by
  obtain ⟨fd, F⟩ := T.f_need_pack
  refine ⟨fd, ?_, F.bindsN fun _ _ _ _ _ _ us hl => match us, hl with | [_], _ => rfl, F.kp⟩
  refine F.ok sc_need_pack (fun vs H Q E h => pu_len (fun ds r ⟨_, e, _⟩ => by rw [e]; rfl) h) (fun cdv A outer s H vs Q E hr h => ⟨(t_need_pack K), PSs.nox ?_, pure_need_pack T.pk h⟩)
  exact (pss_one (ps_if (pt_not (pt_val (pe_callB call_isi (by rfl) T.n_isinstance bt_isinstance (pa_cons (pv 0) (pa_cons (pe_glob rfl T.g_Pack rfl) pa_nil))))) (pss_one ps_never) pss_nil))
-- names of parts_of: N_parts_of
theorem sc_parts_of : FnScope N_parts_of ["request"] (defScope s_parts_of) := ⟨rfl, rfl, rfl, by decide +kernel, rfl, by decide +kernel, by decide +kernel⟩
theorem ok_parts_of (T : Txt K mg) : Cal P w K mg base CX0 1 (He.ga K "parts_of") ["request"] (sp_parts_of K) := by
  obtain ⟨fd, F⟩ := T.f_parts_of
  refine ⟨fd, ?_, F.bindsN fun _ _ _ _ _ _ us hl => match us, hl with | [_], _ => rfl, F.kp⟩
  refine F.ok sc_parts_of (fun vs H Q E h => pu_len (fun ds r ⟨_, e, _⟩ => by rw [e]; rfl) h) (fun cdv A outer s H vs Q E hr h => ⟨(t_parts_of K), PSs.nox ?_, pure_parts_of T.ak h⟩)
  exact (pss_one (ps_ret (pe_ifExp (PW.pt (pw_or (pt_cmpR op_in_seq (pe_ix ix_tup (pv 0) pe_int (fun _ _ => rfl)) (pe_glob rfl T.g_DOUBLE rfl) (by rfl)) (pw_or1 (pt_cmpR op_eq (pe_ix ix_tup (pv 0) pe_int (fun _ _ => rfl)) pe_str (nomark _))))) (pe_callTy call_listOf (by rfl) T.n_list bt_list (pa_cons (pe_slice sl_tup (pv 0) (po_some pe_int) po_none) pa_nil)) (pe_lst pa_nil))))
-- names of size_in: N_size_in
theorem sc_size_in : FnScope N_size_in ["value", "room"] (defScope s_size_in) := ⟨rfl, rfl, rfl, by decide +kernel, rfl, by decide +kernel, by decide +kernel⟩
theorem no_size_in {vs : List V} {H : Hp} {Q : VK} {E : XK} (h : sp_size_in K 0 vs H Q E) : False := by
  obtain ⟨_, _, _, _, _, ⟨_, _, _, h, _⟩, _⟩ := h
  exact Nat.not_lt_zero _ h
theorem ok_size_inN (T : Txt K mg) : ∀ n : Nat, Cal P w K mg base CX0 (n + 2) (He.ga K "size_in") ["value", "room"] (sp_size_in K n)
  | 0 => by
    obtain ⟨fd, F⟩ := T.f_size_in
    exact ⟨fd, ⟨fun vs H Q E h => (no_size_in h).elim, fun A outer s H args us vs Q E _ _ _ _ h => (no_size_in h).elim⟩, F.bindsN fun _ _ _ _ _ _ us hl => match us, hl with | [_, _], _ => rfl, F.kp⟩
  | n + 1 => by
    obtain ⟨fd, F⟩ := T.f_size_in
    obtain ⟨fd_size_in, G_size_in, b_size_in, k_size_in⟩ := (ok_size_inN T n).ex
    obtain ⟨fd_is_integer, G_is_integer, b_is_integer, k_is_integer⟩ := (ok_is_integer (P := P) (w := w) (base := base) T).ex
    obtain ⟨_, c_WIDEST⟩ := T.c_WIDEST
    refine ⟨fd, ?_, F.bindsN fun _ _ _ _ _ _ us hl => match us, hl with | [_, _], _ => rfl, F.kp⟩
    rw [show n + 1 + 2 = n + 2 + 1 by omega]
    refine F.ok sc_size_in (fun vs H Q E h => pu_len (fun ds r ⟨_, _, e, _⟩ => by rw [e]; rfl) h) (fun cdv A outer s H vs Q E hr h => ⟨t_size_in K n, PSs.nox ?_, pure_size_in T.ak h⟩)
    exact (pss_cons (ps_if (PW.pt (pw_or (pt_cmpR op_eq (pv 1) pe_int (nomark _)) (pw_or (pt_not (pt_val (pe_callB call_isi (by rfl) T.n_isinstance bt_isinstance (pa_cons (pv 0) (pa_cons (pe_bltn (v := .ty "tuple") (by rfl) T.n_tuple bt_tuple rfl) pa_nil))))) (pw_or (pt_cmpR op_eq (pe_callB call_lenA (by rfl) T.n_len bt_len (pa_cons (pv 0) pa_nil)) pe_int (nomark _)) (pw_or1 (pt_not (pt_val (pe_callB call_isi (by rfl) T.n_isinstance bt_isinstance (pa_cons (pe_ix ix_tup (pv 0) pe_int (fun _ _ => rfl)) (pa_cons (pe_bltn (v := .ty "str") (by rfl) T.n_str bt_str rfl) pa_nil)))))))))) (pss_one (ps_ret pe_non)) pss_nil)
  (pss_cons (ps_if (pt_cmpR op_in_seq (pe_ix ix_tup (pv 0) pe_int (fun _ _ => rfl)) (pe_glob rfl T.g_LEAVES rfl) (by rfl)) (pss_one (ps_ret (pe_ifExp (PW.pt (pw_and (pt_cmpR op_eq (pe_callB call_lenA (by rfl) T.n_len bt_len (pa_cons (pv 0) pa_nil)) pe_int (nomark _)) (pw_and1 (pt_val (pe_call G_is_integer (hr.mono (by omega)) (by rfl) T.g_is_integer k_is_integer b_is_integer .nil pass0 (pa_cons (pe_ix ix_tup (pv 0) pe_int (fun _ _ => rfl)) (pa_cons pe_int (pa_cons (pe_op op_sub (pe_glob rfl c_WIDEST ⟨_, rfl⟩) pe_int) pa_nil)))))))) pe_int pe_non))) pss_nil)
  (pss_cons (ps_if (pt_cmpR op_in_seq (pe_ix ix_tup (pv 0) pe_int (fun _ _ => rfl)) (pe_glob rfl T.g_SIMPLE rfl) (by rfl)) (pss_one (ps_ret (pe_ifExp (pt_cmpR op_eq (pe_callB call_lenA (by rfl) T.n_len bt_len (pa_cons (pv 0) pa_nil)) pe_int (nomark _)) pe_int pe_non))) pss_nil)
  (pss_cons (ps_set (i := 2) sc_size_in.nd rfl (by first | exact Or.inl rfl | exact Or.inr rfl) (pe_ifExp (pt_cmpR op_in_seq (pe_ix ix_tup (pv 0) pe_int (fun _ _ => rfl)) (pe_glob rfl T.g_DOUBLE rfl) (by rfl)) pe_int pe_int))
  (pss_cons (ps_if (PW.pt (pw_or (PW.pt (pw_and (pt_cmpR op_ne (pe_ix ix_tup (pv 0) pe_int (fun _ _ => rfl)) pe_str (nomark _)) (pw_and1 (pt_cmpR op_notIn_seq (pe_ix ix_tup (pv 0) pe_int (fun _ _ => rfl)) (pe_glob rfl T.g_DOUBLE rfl) (by rfl))))) (pw_or1 (pt_cmpR op_ne (pe_callB call_lenA (by rfl) T.n_len bt_len (pa_cons (pv 0) pa_nil)) (pe_op op_add pe_int (pv 2)) (nomark _))))) (pss_one (ps_ret pe_non)) pss_nil)
  (pss_cons (ps_setLc (i := 3) (own := [("part", 4)]) (g := (gName 4)) (tt := tYes) rfl sc_size_in.nd rfl rfl (sw_true rfl rfl rfl (by first | rfl | decide +kernel | kernel_rfl)) (pi_tup (pe_slice sl_tup (pv 0) (po_some pe_int) po_none)) (blkOk_by (N := N_size_in) (own := [("part", 4)]) (by first | decide +kernel | kernel_rfl)) (fun _ _ _ _ _ => (pg_name (i := 4) sc_size_in.nd rfl (by first | exact Or.inl rfl | exact Or.inr rfl))) (fun _ _ _ _ _ => pts_nil) (fun _ _ _ _ _ => (pe_call G_size_in (hr.mono (by omega)) (by rfl) T.g_size_in k_size_in b_size_in .nil pass0 (pa_cons (pv 4) (pa_cons (pe_op op_sub (pv 1) pe_int) pa_nil)))))
  (pss_one (ps_ret (pe_ifExp (pt_cmpR op_in_seq pe_non (pv 3) (by rfl)) pe_non (pe_op op_add pe_int (pe_callB (cr_sum rfl) (by rfl) T.n_sum bt_sum (pa_cons (pv 3) pa_nil))))))))))))
theorem ok_size_in (T : Txt K mg) : Cal P w K mg base CX0 16 (He.ga K "size_in") ["value", "room"] (sp_size_in K 14) := ok_size_inN T 14
-- names of is_request: N_is_request
theorem sc_is_request : FnScope N_is_request ["value"] (defScope s_is_request) := ⟨rfl, rfl, rfl, by decide +kernel, rfl, by decide +kernel, by decide +kernel⟩
theorem ok_is_request (T : Txt K mg) : Cal P w K mg base CX0 17 (He.ga K "is_request") ["value"] (sp_is_request K) := by
  obtain ⟨fd, F⟩ := T.f_is_request
  obtain ⟨fd_size_in, G_size_in, b_size_in, k_size_in⟩ := (ok_size_in (P := P) (w := w) (base := base) T).ex
  obtain ⟨_, c_DEEPEST⟩ := T.c_DEEPEST
  obtain ⟨_, c_MOST_PARTS⟩ := T.c_MOST_PARTS
  refine ⟨fd, ?_, F.bindsN fun _ _ _ _ _ _ us hl => match us, hl with | [_], _ => rfl, F.kp⟩
  refine F.ok sc_is_request (fun vs H Q E h => pu_len (fun ds r ⟨_, e, _⟩ => by rw [e]; rfl) h) (fun cdv A outer s H vs Q E hr h => ⟨(t_is_request K), PSs.nox ?_, pure_is_request h⟩)
  exact (pss_cons (ps_set (i := 1) sc_is_request.nd rfl (by first | exact Or.inl rfl | exact Or.inr rfl) (pe_call G_size_in (hr.mono (by decide)) (by rfl) T.g_size_in k_size_in b_size_in .nil pass0 (pa_cons (pv 0) (pa_cons (pe_glob rfl c_DEEPEST ⟨_, rfl⟩) pa_nil))))
  (pss_one (ps_ret (pe_and (pe_cmpR op_notN1 (pv 1) pe_non (nomark _)) (pe_one (pe_cmpR op_le (pv 1) (pe_glob rfl c_MOST_PARTS ⟨_, rfl⟩) (nomark _)))))))
-- names of need_request: N_need_request
theorem sc_need_request : FnScope N_need_request ["request"] (defScope s_need_request) := ⟨rfl, rfl, rfl, by decide +kernel, rfl, by decide +kernel, by decide +kernel⟩
theorem ok_need_request (T : Txt K mg) : Cal P w K mg base CX0 18 (He.ga K "need_request") ["request"] (sp_need_request K) := by
  obtain ⟨fd, F⟩ := T.f_need_request
  obtain ⟨fd_is_request, G_is_request, b_is_request, k_is_request⟩ := (ok_is_request (P := P) (w := w) (base := base) T).ex
  refine ⟨fd, ?_, F.bindsN fun _ _ _ _ _ _ us hl => match us, hl with | [_], _ => rfl, F.kp⟩
  refine F.ok sc_need_request (fun vs H Q E h => pu_len (fun ds r ⟨_, e, _⟩ => by rw [e]; rfl) h) (fun cdv A outer s H vs Q E hr h => ⟨(t_need_request K), PSs.nox ?_, pure_need_request h⟩)
  exact (pss_one (ps_if (pt_not (pt_val (pe_call G_is_request (hr.mono (by decide)) (by rfl) T.g_is_request k_is_request b_is_request .nil pass0 (pa_cons (pv 0) pa_nil)))) (pss_one ps_never) pss_nil))
-- names of holes_in: N_holes_in
theorem sc_holes_in : FnScope N_holes_in ["request"] (defScope s_holes_in) := ⟨rfl, rfl, rfl, by decide +kernel, rfl, by decide +kernel, by decide +kernel⟩
theorem no_holes_in {vs : List V} {H : Hp} {Q : VK} {E : XK} (h : sp_holes_in K 0 vs H Q E) : False := by
  obtain ⟨_, _, _, _, _, ⟨_, _, h, _⟩, _⟩ := h
  exact Nat.not_lt_zero _ h
theorem ok_holes_inN (T : Txt K mg) : ∀ n : Nat, Cal P w K mg base CX0 (n + 2) (He.ga K "holes_in") ["request"] (sp_holes_in K n)
  | 0 => by
    obtain ⟨fd, F⟩ := T.f_holes_in
    exact ⟨fd, ⟨fun vs H Q E h => (no_holes_in h).elim, fun A outer s H args us vs Q E _ _ _ _ h => (no_holes_in h).elim⟩, F.bindsN fun _ _ _ _ _ _ us hl => match us, hl with | [_], _ => rfl, F.kp⟩
  | n + 1 => by
    obtain ⟨fd, F⟩ := T.f_holes_in
    obtain ⟨fd_holes_in, G_holes_in, b_holes_in, k_holes_in⟩ := (ok_holes_inN T n).ex
    obtain ⟨fd_parts_of, G_parts_of, b_parts_of, k_parts_of⟩ := (ok_parts_of (P := P) (w := w) (base := base) T).ex
    refine ⟨fd, ?_, F.bindsN fun _ _ _ _ _ _ us hl => match us, hl with | [_], _ => rfl, F.kp⟩
    rw [show n + 1 + 2 = n + 2 + 1 by omega]
    refine F.ok sc_holes_in (fun vs H Q E h => pu_len (fun ds r ⟨_, e, _⟩ => by rw [e]; rfl) h) (fun cdv A outer s H vs Q E hr h => ⟨t_holes_in K n, PSs.nox ?_, pure_holes_in T.ak h⟩)
    exact (pss_cons (ps_if (pt_cmpR op_in_seq (pe_ix ix_tup (pv 0) pe_int (fun _ _ => rfl)) (pe_glob rfl T.g_LEAVES rfl) (by rfl)) (pss_one (ps_ret (pe_lst (pa_cons (pe_ix ix_tup (pv 0) pe_int (fun _ _ => rfl)) pa_nil)))) pss_nil)
  (pss_one (ps_ret (pe_lc2 (own := [("part", 1), ("hole", 2)]) (g := (gName 1)) (tt := tYes) (g1 := (gName 2)) (tt1 := tYes) rfl sc_holes_in.nd (pi_list (pe_call G_parts_of (hr.mono (by omega)) (by rfl) T.g_parts_of k_parts_of b_parts_of .nil pass0 (pa_cons (pv 0) pa_nil))) (blkOk_by (N := N_holes_in) (own := [("part", 1), ("hole", 2)]) (by first | decide +kernel | kernel_rfl)) (by decide) (fun _ _ _ _ _ => (pg_name (i := 1) sc_holes_in.nd rfl (by first | exact Or.inl rfl | exact Or.inr rfl))) (fun _ _ _ _ _ => pts_nil) (fun _ _ _ _ _ => (pi_list (pe_call G_holes_in (hr.mono (by omega)) (by rfl) T.g_holes_in k_holes_in b_holes_in .nil pass0 (pa_cons (pv 1) pa_nil)))) (fun _ _ _ _ _ => (pg_name (i := 2) sc_holes_in.nd rfl (by first | exact Or.inl rfl | exact Or.inr rfl))) (fun _ _ _ _ _ => pts_nil) (fun _ _ _ _ _ => (pv 2))))))
theorem ok_holes_in (T : Txt K mg) : Cal P w K mg base CX0 16 (He.ga K "holes_in") ["request"] (sp_holes_in K 14) := ok_holes_inN T 14
-- names of need_holes: N_need_holes
theorem sc_need_holes : FnScope N_need_holes ["holes", "width"] (defScope s_need_holes) := ⟨rfl, rfl, rfl, by decide +kernel, rfl, by decide +kernel, by decide +kernel⟩
theorem ok_need_holes (T : Txt K mg) : Cal P w K mg base CX0 1 (He.ga K "need_holes") ["holes", "width"] (sp_need_holes K) := by
  obtain ⟨fd, F⟩ := T.f_need_holes
  refine ⟨fd, ?_, F.bindsN fun _ _ _ _ _ _ us hl => match us, hl with | [_, _], _ => rfl, F.kp⟩
  refine F.ok sc_need_holes (fun vs H Q E h => pu_len (fun ds r ⟨_, _, e, _⟩ => by rw [e]; rfl) h) (fun cdv A outer s H vs Q E hr h => ⟨(t_need_holes K), PSs.nox ?_, pure_need_holes h⟩)
  exact (pss_one (ps_for PassesOwn.never rfl (pi_list (pv 0)) (pg_name (i := 2) sc_need_holes.nd rfl (by first | exact Or.inl rfl | exact Or.inr rfl)) (pss_one (ps_if (pt_cmpR op_ge (pv 2) (pv 1) (nomark _)) (pss_one ps_never) pss_nil))))
-- names of holds: N_holds
theorem sc_holds : FnScope N_holds ["request", "row"] (defScope s_holds) := ⟨rfl, rfl, rfl, by decide +kernel, rfl, by decide +kernel, by decide +kernel⟩
theorem no_holds {vs : List V} {H : Hp} {Q : VK} {E : XK} (h : sp_holds K 0 vs H Q E) : False := by
  obtain ⟨_, _, _, _, _, ⟨_, _, _, h, _⟩, _⟩ := h
  exact Nat.not_lt_zero _ h
theorem ok_holdsN (T : Txt K mg) : ∀ n : Nat, Cal P w K mg base CX0 (n + 2) (He.ga K "holds") ["request", "row"] (sp_holds K n)
  | 0 => by
    obtain ⟨fd, F⟩ := T.f_holds
    exact ⟨fd, ⟨fun vs H Q E h => (no_holds h).elim, fun A outer s H args us vs Q E _ _ _ _ h => (no_holds h).elim⟩, F.bindsN fun _ _ _ _ _ _ us hl => match us, hl with | [_, _], _ => rfl, F.kp⟩
  | n + 1 => by
    obtain ⟨fd, F⟩ := T.f_holds
    obtain ⟨fd_holds, G_holds, b_holds, k_holds⟩ := (ok_holdsN T n).ex
    obtain ⟨fd_is_open, G_is_open, b_is_open, k_is_open⟩ := (ok_is_open (P := P) (w := w) (base := base) T).ex
    obtain ⟨fd_parts_of, G_parts_of, b_parts_of, k_parts_of⟩ := (ok_parts_of (P := P) (w := w) (base := base) T).ex
    refine ⟨fd, ?_, F.bindsN fun _ _ _ _ _ _ us hl => match us, hl with | [_, _], _ => rfl, F.kp⟩
    rw [show n + 1 + 2 = n + 2 + 1 by omega]
    refine F.ok sc_holds (fun vs H Q E h => pu_len (fun ds r ⟨_, _, e, _⟩ => by rw [e]; rfl) h) (fun cdv A outer s H vs Q E hr h => ⟨t_holds K n, PSs.nox ?_, pure_holds T.ak h⟩)
    exact (pss_cons (ps_set (i := 2) sc_holds.nd rfl (by first | exact Or.inl rfl | exact Or.inr rfl) (pe_ix ix_tup (pv 0) pe_int (fun _ _ => rfl)))
  (pss_cons (ps_if (pt_cmpR op_in_seq (pv 2) (pe_glob rfl T.g_LEAVES rfl) (by rfl)) (pss_one (ps_ret (pe_cmpR op_eq (pe_call G_is_open (hr.mono (by omega)) (by rfl) T.g_is_open k_is_open b_is_open .nil pass0 (pa_cons (pv 1) (pa_cons (pe_ix ix_tup (pv 0) pe_int (fun _ _ => rfl)) pa_nil))) (pe_cmpR op_eq (pv 2) pe_str (nomark _)) (nomark _)))) pss_nil)
  (pss_cons (ps_if (pt_cmpR op_in_seq (pv 2) (pe_glob rfl T.g_SIMPLE rfl) (by rfl)) (pss_one (ps_ret (pe_cmpR op_eq (pv 2) pe_str (nomark _)))) pss_nil)
  (pss_cons (ps_setLc (i := 3) (own := [("part", 4)]) (g := (gName 4)) (tt := tYes) rfl sc_holds.nd rfl rfl (sw_true rfl rfl rfl (by first | rfl | decide +kernel | kernel_rfl)) (pi_list (pe_call G_parts_of (hr.mono (by omega)) (by rfl) T.g_parts_of k_parts_of b_parts_of .nil pass0 (pa_cons (pv 0) pa_nil))) (blkOk_by (N := N_holds) (own := [("part", 4)]) (by first | decide +kernel | kernel_rfl)) (fun _ _ _ _ _ => (pg_name (i := 4) sc_holds.nd rfl (by first | exact Or.inl rfl | exact Or.inr rfl))) (fun _ _ _ _ _ => pts_nil) (fun _ _ _ _ _ => (pe_call G_holds (hr.mono (by omega)) (by rfl) T.g_holds k_holds b_holds .nil pass0 (pa_cons (pv 4) (pa_cons (pv 1) pa_nil)))))
  (pss_cons (ps_if (pt_cmpR op_eq (pv 2) pe_str (nomark _)) (pss_one (ps_ret (pe_not (pe_ix ix_list (pv 3) pe_int (fun _ _ => rfl))))) pss_nil)
  (pss_one (ps_ret (pe_ifExp (pt_cmpR op_eq (pv 2) pe_str (nomark _)) (pe_callB (cr_all rfl) (by rfl) T.n_all bt_all (pa_cons (pv 3) pa_nil)) (pe_callB (cr_any rfl) (by rfl) T.n_any bt_any (pa_cons (pv 3) pa_nil))))))))))
theorem ok_holds (T : Txt K mg) : Cal P w K mg base CX0 16 (He.ga K "holds") ["request", "row"] (sp_holds K 14) := ok_holdsN T 14
-- names of fits: N_fits
theorem sc_fits : FnScope N_fits ["request", "row"] (defScope s_fits) := ⟨rfl, rfl, rfl, by decide +kernel, rfl, by decide +kernel, by decide +kernel⟩
theorem ok_fits (T : Txt K mg) : Cal P w K mg base CX0 19 (He.ga K "fits") ["request", "row"] (sp_fits K) := by
  obtain ⟨fd, F⟩ := T.f_fits
  obtain ⟨fd_holds, G_holds, b_holds, k_holds⟩ := (ok_holds (P := P) (w := w) (base := base) T).ex
  obtain ⟨fd_need_row, G_need_row, b_need_row, k_need_row⟩ := (ok_need_row (P := P) (w := w) (base := base) T).ex
  obtain ⟨fd_holes_in, G_holes_in, b_holes_in, k_holes_in⟩ := (ok_holes_in (P := P) (w := w) (base := base) T).ex
  obtain ⟨fd_need_request, G_need_request, b_need_request, k_need_request⟩ := (ok_need_request (P := P) (w := w) (base := base) T).ex
  obtain ⟨fd_need_holes, G_need_holes, b_need_holes, k_need_holes⟩ := (ok_need_holes (P := P) (w := w) (base := base) T).ex
  refine ⟨fd, ?_, F.bindsN fun _ _ _ _ _ _ us hl => match us, hl with | [_, _], _ => rfl, F.kp⟩
  refine F.ok sc_fits (fun vs H Q E h => pu_len (fun ds r ⟨_, _, e, _⟩ => by rw [e]; rfl) h) (fun cdv A outer s H vs Q E hr h => ⟨(t_fits K), PSs.nox ?_, pure_fits h⟩)
  exact (pss_cons (ps_expr (pe_call G_need_request (hr.mono (by decide)) (by rfl) T.g_need_request k_need_request b_need_request .nil pass0 (pa_cons (pv 0) pa_nil)))
  (pss_cons (ps_expr (pe_call G_need_row (hr.mono (by decide)) (by rfl) T.g_need_row k_need_row b_need_row .nil pass0 (pa_cons (pv 1) pa_nil)))
  (pss_cons (ps_expr (pe_call G_need_holes (hr.mono (by decide)) (by rfl) T.g_need_holes k_need_holes b_need_holes .nil pass0 (pa_cons (pe_call G_holes_in (hr.mono (by decide)) (by rfl) T.g_holes_in k_holes_in b_holes_in .nil pass0 (pa_cons (pv 0) pa_nil)) (pa_cons (pe_callB call_lenA (by rfl) T.n_len bt_len (pa_cons (pv 1) pa_nil)) pa_nil))))
  (pss_one (ps_ret (pe_call G_holds (hr.mono (by decide)) (by rfl) T.g_holds k_holds b_holds .nil pass0 (pa_cons (pv 0) (pa_cons (pv 1) pa_nil))))))))
-- names of picks: N_picks
theorem sc_picks : FnScope N_picks ["request", "pack"] (defScope s_picks) := ⟨rfl, rfl, rfl, by decide +kernel, rfl, by decide +kernel, by decide +kernel⟩
theorem ok_picks (T : Txt K mg) : Cal P w K mg base CX0 19 (He.ga K "picks") ["request", "pack"] (sp_picks K) := by
  obtain ⟨fd, F⟩ := T.f_picks
  obtain ⟨fd_need_pack, G_need_pack, b_need_pack, k_need_pack⟩ := (ok_need_pack (P := P) (w := w) (base := base) T).ex
  obtain ⟨fd_holds, G_holds, b_holds, k_holds⟩ := (ok_holds (P := P) (w := w) (base := base) T).ex
  obtain ⟨fd_Pack_cards, G_Pack_cards, b_Pack_cards, k_Pack_cards⟩ := (ok_Pack_cards (P := P) (w := w) (base := base) T).ex
  obtain ⟨fd_Pack_width, G_Pack_width, b_Pack_width, k_Pack_width⟩ := (ok_Pack_width (P := P) (w := w) (base := base) T).ex
  obtain ⟨fd_Pack_Dlen, G_Pack_Dlen, b_Pack_Dlen, k_Pack_Dlen⟩ := (ok_Pack_Dlen (P := P) (w := w) (base := base) T).ex
  obtain ⟨fd_Pack_Dinit, G_Pack_Dinit, b_Pack_Dinit, k_Pack_Dinit⟩ := (ok_Pack_Dinit (P := P) (w := w) (base := base) T).ex
  obtain ⟨fd_holes_in, G_holes_in, b_holes_in, k_holes_in⟩ := (ok_holes_in (P := P) (w := w) (base := base) T).ex
  obtain ⟨fd_need_request, G_need_request, b_need_request, k_need_request⟩ := (ok_need_request (P := P) (w := w) (base := base) T).ex
  obtain ⟨fd_need_holes, G_need_holes, b_need_holes, k_need_holes⟩ := (ok_need_holes (P := P) (w := w) (base := base) T).ex
  refine ⟨fd, ?_, F.bindsN fun _ _ _ _ _ _ us hl => match us, hl with | [_, _], _ => rfl, F.kp⟩
  refine F.ok sc_picks (fun vs H Q E h => pu_len (fun ds r ⟨_, _, _, e, _⟩ => by rw [e]; rfl) h) (fun cdv A outer s H vs Q E hr h => ⟨(t_picks K), PSs.nox ?_, pure_picks h⟩)
  exact (pss_cons (ps_expr (pe_call G_need_request (hr.mono (by decide)) (by rfl) T.g_need_request k_need_request b_need_request .nil pass0 (pa_cons (pv 0) pa_nil)))
  (pss_cons (ps_expr (pe_call G_need_pack (hr.mono (by decide)) (by rfl) T.g_need_pack k_need_pack b_need_pack .nil pass0 (pa_cons (pv 1) pa_nil)))
  (pss_cons (ps_if (pt_cmpR op_gt (pe_lenOwn T.m_Pack_Dlen.at_ T.m_Pack_Dlen.fn G_Pack_Dlen (hr.mono (by decide)) b_Pack_Dlen pass0 (pv 1) (by rfl) T.n_len) pe_int (nomark _)) (pss_one (ps_expr (pe_call G_need_holes (hr.mono (by decide)) (by rfl) T.g_need_holes k_need_holes b_need_holes .nil pass0 (pa_cons (pe_call G_holes_in (hr.mono (by decide)) (by rfl) T.g_holes_in k_holes_in b_holes_in .nil pass0 (pa_cons (pv 0) pa_nil)) (pa_cons (pe_meth0 (pv 1) T.cl_Pack T.m_Pack_width G_Pack_width (hr.mono (by decide)) b_Pack_width .nil pass0) pa_nil))))) pss_nil)
  (pss_one (ps_ret (pe_make T.mk_Pack G_Pack_Dinit (hr.mono (by decide)) (by rfl) T.g_Pack b_Pack_Dinit .nil pass0 (pa_cons (pe_lc (own := [("card", 2)]) (g := (gName 2)) (tt := (tB (tCall (sp_holds K 14) [] E0 (tCons (tVar 0) (tCons (tOp (rIxT K) (tVar 2) (tC (.int 1))) tNil))))) rfl sc_picks.nd (pi_list (pe_meth0 (pv 1) T.cl_Pack T.m_Pack_cards G_Pack_cards (hr.mono (by decide)) b_Pack_cards .nil pass0)) (blkOk_by (N := N_picks) (own := [("card", 2)]) (by first | decide +kernel | kernel_rfl)) (fun _ _ _ _ _ => (pg_name (i := 2) sc_picks.nd rfl (by first | exact Or.inl rfl | exact Or.inr rfl))) (fun _ _ _ _ _ => (pts_one (pt_val (pe_call G_holds (hr.mono (by decide)) (by rfl) T.g_holds k_holds b_holds .nil pass0 (pa_cons (pv 0) (pa_cons (pe_ix ix_tup (pv 2) pe_int (fun _ _ => rfl)) pa_nil)))))) (fun _ _ _ _ _ => (pv 2))) pa_nil)))))))
-- names of difference: N_difference
theorem sc_difference : FnScope N_difference ["request", "other", "width"] (defScope s_difference) := ⟨rfl, rfl, rfl, by decide +kernel, rfl, by decide +kernel, by decide +kernel⟩
theorem ok_difference (T : Txt K mg) : Cal P w K mg base CX0 19 (He.ga K "difference") ["request", "other", "width"] (sp_difference K) := by
  obtain ⟨fd, F⟩ := T.f_difference
  obtain ⟨fd_holds, G_holds, b_holds, k_holds⟩ := (ok_holds (P := P) (w := w) (base := base) T).ex
  obtain ⟨fd_row_in, G_row_in, b_row_in, k_row_in⟩ := (ok_row_in (P := P) (w := w) (base := base) T).ex
  obtain ⟨fd_holes_in, G_holes_in, b_holes_in, k_holes_in⟩ := (ok_holes_in (P := P) (w := w) (base := base) T).ex
  obtain ⟨fd_need_request, G_need_request, b_need_request, k_need_request⟩ := (ok_need_request (P := P) (w := w) (base := base) T).ex
  obtain ⟨fd_need_width, G_need_width, b_need_width, k_need_width⟩ := (ok_need_width (P := P) (w := w) (base := base) T).ex
  obtain ⟨fd_need_holes, G_need_holes, b_need_holes, k_need_holes⟩ := (ok_need_holes (P := P) (w := w) (base := base) T).ex
  obtain ⟨_, c_WIDEST_JUDGED_asks⟩ := T.c_WIDEST_JUDGED_asks
  refine ⟨fd, ?_, F.bindsN fun _ _ _ _ _ _ us hl => match us, hl with | [_, _, _], _ => rfl, F.kp⟩
  refine F.ok sc_difference (fun vs H Q E h => pu_len (fun ds r ⟨_, _, _, e, _⟩ => by rw [e]; rfl) h) (fun cdv A outer s H vs Q E hr h => ⟨(t_difference K), PSs.nox ?_, pure_difference h⟩)
  exact (pss_cons (ps_expr (pe_call G_need_request (hr.mono (by decide)) (by rfl) T.g_need_request k_need_request b_need_request .nil pass0 (pa_cons (pv 0) pa_nil)))
  (pss_cons (ps_expr (pe_call G_need_request (hr.mono (by decide)) (by rfl) T.g_need_request k_need_request b_need_request .nil pass0 (pa_cons (pv 1) pa_nil)))
  (pss_cons (ps_expr (pe_call G_need_width (hr.mono (by decide)) (by rfl) T.g_need_width k_need_width b_need_width .nil pass0 (pa_cons (pv 2) (pa_cons (pe_glob rfl c_WIDEST_JUDGED_asks ⟨_, rfl⟩) pa_nil))))
  (pss_cons (ps_expr (pe_call G_need_holes (hr.mono (by decide)) (by rfl) T.g_need_holes k_need_holes b_need_holes .nil pass0 (pa_cons (pe_op op_cat (pe_call G_holes_in (hr.mono (by decide)) (by rfl) T.g_holes_in k_holes_in b_holes_in .nil pass0 (pa_cons (pv 0) pa_nil)) (pe_call G_holes_in (hr.mono (by decide)) (by rfl) T.g_holes_in k_holes_in b_holes_in .nil pass0 (pa_cons (pv 1) pa_nil))) (pa_cons (pv 2) pa_nil))))
  (pss_cons (ps_for PassesOwn.never rfl (pi_range1 (by rfl) T.n_range (pa_cons (pe_op op_shl pe_int (pv 2)) pa_nil)) (pg_name (i := 3) sc_difference.nd rfl (by first | exact Or.inl rfl | exact Or.inr rfl)) (pss_cons (ps_set (i := 4) sc_difference.nd rfl (by first | exact Or.inl rfl | exact Or.inr rfl) (pe_call G_row_in (hr.mono (by decide)) (by rfl) T.g_row_in k_row_in b_row_in .nil pass0 (pa_cons (pv 2) (pa_cons (pv 3) pa_nil))))
  (pss_one (ps_if (pt_cmpR op_ne (pe_call G_holds (hr.mono (by decide)) (by rfl) T.g_holds k_holds b_holds .nil pass0 (pa_cons (pv 0) (pa_cons (pv 4) pa_nil))) (pe_call G_holds (hr.mono (by decide)) (by rfl) T.g_holds k_holds b_holds .nil pass0 (pa_cons (pv 1) (pa_cons (pv 4) pa_nil))) (nomark _)) (pss_one (ps_ret (pv 4))) pss_nil))))
  (pss_one (ps_ret pe_non)))))))
-- names of is_tray: N_is_tray
theorem sc_is_tray : FnScope N_is_tray ["value"] (defScope s_is_tray) := ⟨rfl, rfl, rfl, by decide +kernel, rfl, by decide +kernel, by decide +kernel⟩
theorem ok_is_tray (T : Txt K mg) : Cal P w K mg base CX0 2 (He.ga K "is_tray") ["value"] (sp_is_tray K) := by
  obtain ⟨fd, F⟩ := T.f_is_tray
  obtain ⟨fd_is_integer, G_is_integer, b_is_integer, k_is_integer⟩ := (ok_is_integer (P := P) (w := w) (base := base) T).ex
  obtain ⟨_, c_TRAYS⟩ := T.c_TRAYS
  refine ⟨fd, ?_, F.bindsN fun _ _ _ _ _ _ us hl => match us, hl with | [_], _ => rfl, F.kp⟩
  refine F.ok sc_is_tray (fun vs H Q E h => pu_len (fun ds r ⟨_, e, _⟩ => by rw [e]; rfl) h) (fun cdv A outer s H vs Q E hr h => ⟨(t_is_tray K), PSs.nox ?_, pure_is_tray h⟩)
  exact (pss_one (ps_ret (pe_call G_is_integer (hr.mono (by decide)) (by rfl) T.g_is_integer k_is_integer b_is_integer .nil pass0 (pa_cons (pv 0) (pa_cons pe_int (pa_cons (pe_op op_sub (pe_glob rfl c_TRAYS ⟨_, rfl⟩) pe_int) pa_nil))))))
-- names of is_step: N_is_step
theorem sc_is_step : FnScope N_is_step ["value"] (defScope s_is_step) := ⟨rfl, rfl, rfl, by decide +kernel, rfl, by decide +kernel, by decide +kernel⟩
theorem ok_is_step (T : Txt K mg) : Cal P w K mg base CX0 3 (He.ga K "is_step") ["value"] (sp_is_step K) := by
  obtain ⟨fd, F⟩ := T.f_is_step
  obtain ⟨fd_is_integer, G_is_integer, b_is_integer, k_is_integer⟩ := (ok_is_integer (P := P) (w := w) (base := base) T).ex
  obtain ⟨fd_is_tray, G_is_tray, b_is_tray, k_is_tray⟩ := (ok_is_tray (P := P) (w := w) (base := base) T).ex
  obtain ⟨_, c_WIDEST⟩ := T.c_WIDEST
  refine ⟨fd, ?_, F.bindsN fun _ _ _ _ _ _ us hl => match us, hl with | [_], _ => rfl, F.kp⟩
  refine F.ok sc_is_step (fun vs H Q E h => pu_len (fun ds r ⟨_, e, _⟩ => by rw [e]; rfl) h) (fun cdv A outer s H vs Q E hr h => ⟨(t_is_step K), PSs.nox ?_, pure_is_step h⟩)
  exact (pss_cons (ps_if (PW.pt (pw_or (pt_not (pt_val (pe_callB call_isi (by rfl) T.n_isinstance bt_isinstance (pa_cons (pv 0) (pa_cons (pe_bltn (v := .ty "tuple") (by rfl) T.n_tuple bt_tuple rfl) pa_nil))))) (pw_or1 (pt_cmpR op_eq (pe_callB call_lenA (by rfl) T.n_len bt_len (pa_cons (pv 0) pa_nil)) pe_int (nomark _))))) (pss_one (ps_ret pe_bl)) pss_nil)
  (pss_cons (ps_if (PW.pt (pw_and (pt_cmpR op_eq (pe_callB call_lenA (by rfl) T.n_len bt_len (pa_cons (pv 0) pa_nil)) pe_int (nomark _)) (pw_and1 (pt_cmpR op_eq (pe_ix ix_tup (pv 0) pe_int (fun _ _ => rfl)) pe_str (nomark _))))) (pss_one (ps_ret (pe_and (pe_call G_is_integer (hr.mono (by decide)) (by rfl) T.g_is_integer k_is_integer b_is_integer .nil pass0 (pa_cons (pe_ix ix_tup (pv 0) pe_int (fun _ _ => rfl)) (pa_cons pe_int (pa_cons (pe_op op_sub (pe_glob rfl c_WIDEST ⟨_, rfl⟩) pe_int) pa_nil)))) (pe_one (pe_callB (cr_all rfl) (by rfl) T.n_all bt_all (pa_cons (pe_lc (own := [("at", 1)]) (g := (gName 1)) (tt := tYes) rfl sc_is_step.nd (pi_tup (pe_tup (pa_cons pe_int (pa_cons pe_int (pa_cons pe_int pa_nil))))) (blkOk_by (N := N_is_step) (own := [("at", 1)]) (by first | decide +kernel | kernel_rfl)) (fun _ _ _ _ _ => (pg_name (i := 1) sc_is_step.nd rfl (by first | exact Or.inl rfl | exact Or.inr rfl))) (fun _ _ _ _ _ => pts_nil) (fun _ _ _ _ _ => (pe_call G_is_tray (hr.mono (by decide)) (by rfl) T.g_is_tray k_is_tray b_is_tray .nil pass0 (pa_cons (pe_ix ix_tup (pv 0) (pv 1) (fun _ _ => rfl)) pa_nil)))) pa_nil)))))) pss_nil)
  (pss_one (ps_ret (pe_and (pe_cmpR op_eq (pe_callB call_lenA (by rfl) T.n_len bt_len (pa_cons (pv 0) pa_nil)) pe_int (nomark _)) (pe_and (pe_cmpR op_eq (pe_ix ix_tup (pv 0) pe_int (fun _ _ => rfl)) pe_str (nomark _)) (pe_and (pe_call G_is_tray (hr.mono (by decide)) (by rfl) T.g_is_tray k_is_tray b_is_tray .nil pass0 (pa_cons (pe_ix ix_tup (pv 0) pe_int (fun _ _ => rfl)) pa_nil)) (pe_one (pe_call G_is_tray (hr.mono (by decide)) (by rfl) T.g_is_tray k_is_tray b_is_tray .nil pass0 (pa_cons (pe_ix ix_tup (pv 0) pe_int (fun _ _ => rfl)) pa_nil))))))))))
-- names of is_program: N_is_program
theorem sc_is_program : FnScope N_is_program ["value"] (defScope s_is_program) := ⟨rfl, rfl, rfl, by decide +kernel, rfl, by decide +kernel, by decide +kernel⟩
theorem ok_is_program (T : Txt K mg) : Cal P w K mg base CX0 4 (He.ga K "is_program") ["value"] (sp_is_program K) := by
  obtain ⟨fd, F⟩ := T.f_is_program
  obtain ⟨fd_is_step, G_is_step, b_is_step, k_is_step⟩ := (ok_is_step (P := P) (w := w) (base := base) T).ex
  obtain ⟨fd_is_list, G_is_list, b_is_list, k_is_list⟩ := (ok_is_list (P := P) (w := w) (base := base) T).ex
  obtain ⟨_, c_MOST_STEPS⟩ := T.c_MOST_STEPS
  refine ⟨fd, ?_, F.bindsN fun _ _ _ _ _ _ us hl => match us, hl with | [_], _ => rfl, F.kp⟩
  refine F.ok sc_is_program (fun vs H Q E h => pu_len (fun ds r ⟨_, e, _⟩ => by rw [e]; rfl) h) (fun cdv A outer s H vs Q E hr h => ⟨(t_is_program K), PSs.nox ?_, pure_is_program h⟩)
  exact (pss_one (ps_ret (pe_and (pe_call G_is_list (hr.mono (by decide)) (by rfl) T.g_is_list k_is_list b_is_list .nil pass0 (pa_cons (pv 0) (pa_cons (pe_glob rfl c_MOST_STEPS ⟨_, rfl⟩) pa_nil))) (pe_one (pe_callB (cr_all rfl) (by rfl) T.n_all bt_all (pa_cons (pe_lc (own := [("step", 1)]) (g := (gName 1)) (tt := tYes) rfl sc_is_program.nd (pi_list (pv 0)) (blkOk_by (N := N_is_program) (own := [("step", 1)]) (by first | decide +kernel | kernel_rfl)) (fun _ _ _ _ _ => (pg_name (i := 1) sc_is_program.nd rfl (by first | exact Or.inl rfl | exact Or.inr rfl))) (fun _ _ _ _ _ => pts_nil) (fun _ _ _ _ _ => (pe_call G_is_step (hr.mono (by decide)) (by rfl) T.g_is_step k_is_step b_is_step .nil pass0 (pa_cons (pv 1) pa_nil)))) pa_nil))))))
-- names of need_program: N_need_program
theorem sc_need_program : FnScope N_need_program ["program"] (defScope s_need_program) := ⟨rfl, rfl, rfl, by decide +kernel, rfl, by decide +kernel, by decide +kernel⟩
theorem ok_need_program (T : Txt K mg) : Cal P w K mg base CX0 5 (He.ga K "need_program") ["program"] (sp_need_program K) := by
  obtain ⟨fd, F⟩ := T.f_need_program
  obtain ⟨fd_is_program, G_is_program, b_is_program, k_is_program⟩ := (ok_is_program (P := P) (w := w) (base := base) T).ex
  refine ⟨fd, ?_, F.bindsN fun _ _ _ _ _ _ us hl => match us, hl with | [_], _ => rfl, F.kp⟩
  refine F.ok sc_need_program (fun vs H Q E h => pu_len (fun ds r ⟨_, e, _⟩ => by rw [e]; rfl) h) (fun cdv A outer s H vs Q E hr h => ⟨(t_need_program K), PSs.nox ?_, pure_need_program h⟩)
  exact (pss_one (ps_if (pt_not (pt_val (pe_call G_is_program (hr.mono (by decide)) (by rfl) T.g_is_program k_is_program b_is_program .nil pass0 (pa_cons (pv 0) pa_nil)))) (pss_one ps_never) pss_nil))
-- names of needled: N_needled
theorem sc_needled : FnScope N_needled ["program"] (defScope s_needled) := ⟨rfl, rfl, rfl, by decide +kernel, rfl, by decide +kernel, by decide +kernel⟩
theorem ok_needled (T : Txt K mg) : Cal P w K mg base CX0 1 (He.ga K "needled") ["program"] (sp_needled K) := by
  obtain ⟨fd, F⟩ := T.f_needled
  refine ⟨fd, ?_, F.bindsN fun _ _ _ _ _ _ us hl => match us, hl with | [_], _ => rfl, F.kp⟩
  refine F.ok sc_needled (fun vs H Q E h => pu_len (fun ds r ⟨_, e, _⟩ => by rw [e]; rfl) h) (fun cdv A outer s H vs Q E hr h => ⟨(t_needled K), PSs.nox ?_, pure_needled h⟩)
  exact (pss_one (ps_ret (pe_lc (own := [("step", 1)]) (g := (gName 1)) (tt := (tTest (tOp rEq (tOp (rIxT K) (tVar 1) (tC (.int 0))) (tC (.str "drop"))))) rfl sc_needled.nd (pi_list (pv 0)) (blkOk_by (N := N_needled) (own := [("step", 1)]) (by first | decide +kernel | kernel_rfl)) (fun _ _ _ _ _ => (pg_name (i := 1) sc_needled.nd rfl (by first | exact Or.inl rfl | exact Or.inr rfl))) (fun _ _ _ _ _ => (pts_one (pt_cmpR op_eq (pe_ix ix_tup (pv 1) pe_int (fun _ _ => rfl)) pe_str (nomark _)))) (fun _ _ _ _ _ => (pe_ix ix_tup (pv 1) pe_int (fun _ _ => rfl))))))
-- names of landing: N_landing
theorem sc_landing : FnScope N_landing ["program", "row"] (defScope s_landing) := ⟨rfl, rfl, rfl, by decide +kernel, rfl, by decide +kernel, by decide +kernel⟩
theorem ok_landing (T : Txt K mg) : Cal P w K mg base CX0 2 (He.ga K "landing") ["program", "row"] (sp_landing K) := by
  obtain ⟨fd, F⟩ := T.f_landing
  obtain ⟨fd_is_open, G_is_open, b_is_open, k_is_open⟩ := (ok_is_open (P := P) (w := w) (base := base) T).ex
  obtain ⟨_, c_FIRST⟩ := T.c_FIRST
  refine ⟨fd, ?_, F.bindsN fun _ _ _ _ _ _ us hl => match us, hl with | [_, _], _ => rfl, F.kp⟩
  refine F.ok sc_landing (fun vs H Q E h => pu_len (fun ds r ⟨_, _, e, _⟩ => by rw [e]; rfl) h) (fun cdv A outer s H vs Q E hr h => ⟨(t_landing K), PSs.nox ?_, pure_landing h⟩)
  exact (pss_cons (ps_set (i := 2) sc_landing.nd rfl (by first | exact Or.inl rfl | exact Or.inr rfl) (pe_glob rfl c_FIRST ⟨_, rfl⟩))
  (pss_cons (ps_for PassesOwn.never rfl (pi_list (pv 0)) (pg_name (i := 3) sc_landing.nd rfl (by first | exact Or.inl rfl | exact Or.inr rfl)) (pss_one (ps_if (PW.pt (pw_and (pt_cmpR op_eq (pe_ix ix_tup (pv 3) pe_int (fun _ _ => rfl)) (pv 2) (nomark _)) (pw_and1 (pt_cmpR op_eq (pe_ix ix_tup (pv 3) pe_int (fun _ _ => rfl)) pe_str (nomark _))))) (pss_one (ps_set (i := 2) sc_landing.nd rfl (by first | exact Or.inl rfl | exact Or.inr rfl) (pe_ix ix_tup (pv 3) pe_int (fun _ _ => rfl)))) (pss_one (ps_if (pt_cmpR op_eq (pe_ix ix_tup (pv 3) pe_int (fun _ _ => rfl)) (pv 2) (nomark _)) (pss_one (ps_set (i := 2) sc_landing.nd rfl (by first | exact Or.inl rfl | exact Or.inr rfl) (pe_ifExp (pt_val (pe_call G_is_open (hr.mono (by decide)) (by rfl) T.g_is_open k_is_open b_is_open .nil pass0 (pa_cons (pv 1) (pa_cons (pe_ix ix_tup (pv 3) pe_int (fun _ _ => rfl)) pa_nil)))) (pe_ix ix_tup (pv 3) pe_int (fun _ _ => rfl)) (pe_ix ix_tup (pv 3) pe_int (fun _ _ => rfl))))) pss_nil)))))
  (pss_one (ps_ret (pv 2)))))
-- names of fault: N_fault
theorem sc_fault : FnScope N_fault ["program", "request", "width"] (defScope s_fault) := ⟨rfl, rfl, rfl, by decide +kernel, rfl, by decide +kernel, by decide +kernel⟩
theorem ok_fault (T : Txt K mg) : Cal P w K mg base CX0 19 (He.ga K "fault") ["program", "request", "width"] (sp_fault K) := by
  obtain ⟨fd, F⟩ := T.f_fault
  obtain ⟨fd_holds, G_holds, b_holds, k_holds⟩ := (ok_holds (P := P) (w := w) (base := base) T).ex
  obtain ⟨fd_row_in, G_row_in, b_row_in, k_row_in⟩ := (ok_row_in (P := P) (w := w) (base := base) T).ex
  obtain ⟨fd_holes_in, G_holes_in, b_holes_in, k_holes_in⟩ := (ok_holes_in (P := P) (w := w) (base := base) T).ex
  obtain ⟨fd_need_request, G_need_request, b_need_request, k_need_request⟩ := (ok_need_request (P := P) (w := w) (base := base) T).ex
  obtain ⟨fd_landing, G_landing, b_landing, k_landing⟩ := (ok_landing (P := P) (w := w) (base := base) T).ex
  obtain ⟨fd_need_width, G_need_width, b_need_width, k_need_width⟩ := (ok_need_width (P := P) (w := w) (base := base) T).ex
  obtain ⟨fd_need_program, G_need_program, b_need_program, k_need_program⟩ := (ok_need_program (P := P) (w := w) (base := base) T).ex
  obtain ⟨fd_need_holes, G_need_holes, b_need_holes, k_need_holes⟩ := (ok_need_holes (P := P) (w := w) (base := base) T).ex
  obtain ⟨fd_needled, G_needled, b_needled, k_needled⟩ := (ok_needled (P := P) (w := w) (base := base) T).ex
  obtain ⟨_, c_PICKED⟩ := T.c_PICKED
  obtain ⟨_, c_WIDEST_JUDGED_programs⟩ := T.c_WIDEST_JUDGED_programs
  refine ⟨fd, ?_, F.bindsN fun _ _ _ _ _ _ us hl => match us, hl with | [_, _, _], _ => rfl, F.kp⟩
  refine F.ok sc_fault (fun vs H Q E h => pu_len (fun ds r ⟨_, _, _, e, _⟩ => by rw [e]; rfl) h) (fun cdv A outer s H vs Q E hr h => ⟨(t_fault K), PSs.nox ?_, pure_fault h⟩)
  exact (pss_cons (ps_expr (pe_call G_need_program (hr.mono (by decide)) (by rfl) T.g_need_program k_need_program b_need_program .nil pass0 (pa_cons (pv 0) pa_nil)))
  (pss_cons (ps_expr (pe_call G_need_request (hr.mono (by decide)) (by rfl) T.g_need_request k_need_request b_need_request .nil pass0 (pa_cons (pv 1) pa_nil)))
  (pss_cons (ps_expr (pe_call G_need_width (hr.mono (by decide)) (by rfl) T.g_need_width k_need_width b_need_width .nil pass0 (pa_cons (pv 2) (pa_cons (pe_glob rfl c_WIDEST_JUDGED_programs ⟨_, rfl⟩) pa_nil))))
  (pss_cons (ps_expr (pe_call G_need_holes (hr.mono (by decide)) (by rfl) T.g_need_holes k_need_holes b_need_holes .nil pass0 (pa_cons (pe_op op_cat (pe_call G_holes_in (hr.mono (by decide)) (by rfl) T.g_holes_in k_holes_in b_holes_in .nil pass0 (pa_cons (pv 1) pa_nil)) (pe_call G_needled (hr.mono (by decide)) (by rfl) T.g_needled k_needled b_needled .nil pass0 (pa_cons (pv 0) pa_nil))) (pa_cons (pv 2) pa_nil))))
  (pss_cons (ps_for PassesOwn.never rfl (pi_range1 (by rfl) T.n_range (pa_cons (pe_op op_shl pe_int (pv 2)) pa_nil)) (pg_name (i := 3) sc_fault.nd rfl (by first | exact Or.inl rfl | exact Or.inr rfl)) (pss_cons (ps_set (i := 4) sc_fault.nd rfl (by first | exact Or.inl rfl | exact Or.inr rfl) (pe_call G_row_in (hr.mono (by decide)) (by rfl) T.g_row_in k_row_in b_row_in .nil pass0 (pa_cons (pv 2) (pa_cons (pv 3) pa_nil))))
  (pss_one (ps_if (pt_cmpR op_ne (pe_cmpR op_eq (pe_call G_landing (hr.mono (by decide)) (by rfl) T.g_landing k_landing b_landing .nil pass0 (pa_cons (pv 0) (pa_cons (pv 4) pa_nil))) (pe_glob rfl c_PICKED ⟨_, rfl⟩) (nomark _)) (pe_call G_holds (hr.mono (by decide)) (by rfl) T.g_holds k_holds b_holds .nil pass0 (pa_cons (pv 1) (pa_cons (pv 4) pa_nil))) (nomark _)) (pss_one (ps_ret (pv 4))) pss_nil))))
  (pss_one (ps_ret pe_non)))))))
-- names of nested: N_nested
theorem sc_nested : FnScope N_nested ["request"] (defScope s_nested) := ⟨rfl, rfl, rfl, by decide +kernel, rfl, by decide +kernel, by decide +kernel⟩
theorem no_nested {vs : List V} {H : Hp} {Q : VK} {E : XK} (h : sp_nested K 0 vs H Q E) : False := by
  obtain ⟨_, _, _, _, _, ⟨_, _, h, _⟩, _⟩ := h
  exact Nat.not_lt_zero _ h
theorem ok_nestedN (T : Txt K mg) : ∀ n : Nat, Cal P w K mg base CX0 (n + 2) (He.ga K "nested") ["request"] (sp_nested K n)
  | 0 => by
    obtain ⟨fd, F⟩ := T.f_nested
    exact ⟨fd, ⟨fun vs H Q E h => (no_nested h).elim, fun A outer s H args us vs Q E _ _ _ _ h => (no_nested h).elim⟩, F.bindsN fun _ _ _ _ _ _ us hl => match us, hl with | [_], _ => rfl, F.kp⟩
  | n + 1 => by
    obtain ⟨fd, F⟩ := T.f_nested
    obtain ⟨fd_nested, G_nested, b_nested, k_nested⟩ := (ok_nestedN T n).ex
    obtain ⟨fd_parts_of, G_parts_of, b_parts_of, k_parts_of⟩ := (ok_parts_of (P := P) (w := w) (base := base) T).ex
    refine ⟨fd, ?_, F.bindsN fun _ _ _ _ _ _ us hl => match us, hl with | [_], _ => rfl, F.kp⟩
    rw [show n + 1 + 2 = n + 2 + 1 by omega]
    refine F.ok sc_nested (fun vs H Q E h => pu_len (fun ds r ⟨_, e, _⟩ => by rw [e]; rfl) h) (fun cdv A outer s H vs Q E hr h => ⟨t_nested K n, PSs.nox ?_, pure_nested T.ak h⟩)
    exact (pss_cons (ps_setLc (i := 1) (own := [("part", 2)]) (g := (gName 2)) (tt := tYes) rfl sc_nested.nd rfl rfl (sw_true rfl rfl rfl (by first | rfl | decide +kernel | kernel_rfl)) (pi_list (pe_call G_parts_of (hr.mono (by omega)) (by rfl) T.g_parts_of k_parts_of b_parts_of .nil pass0 (pa_cons (pv 0) pa_nil))) (blkOk_by (N := N_nested) (own := [("part", 2)]) (by first | decide +kernel | kernel_rfl)) (fun _ _ _ _ _ => (pg_name (i := 2) sc_nested.nd rfl (by first | exact Or.inl rfl | exact Or.inr rfl))) (fun _ _ _ _ _ => pts_nil) (fun _ _ _ _ _ => (pe_call G_nested (hr.mono (by omega)) (by rfl) T.g_nested k_nested b_nested .nil pass0 (pa_cons (pv 2) pa_nil))))
  (pss_one (ps_ret (pe_op op_add (pe_callTy call_intR (by rfl) T.n_int bt_int (pa_cons (pe_cmpR op_eq (pe_callB call_lenA (by rfl) T.n_len bt_len (pa_cons (pv 1) pa_nil)) pe_int (nomark _)) pa_nil)) (pe_callBK (cr_maxD rfl ⟨_, hr⟩) (by rfl) T.n_max bt_max (pa_cons (pv 1) pa_nil) (pk_cons pe_int pk_nil))))))
theorem ok_nested (T : Txt K mg) : Cal P w K mg base CX0 16 (He.ga K "nested") ["request"] (sp_nested K 14) := ok_nestedN T 14
-- names of steps_for: N_steps_for
theorem sc_steps_for : FnScope N_steps_for ["request", "places", "level"] (defScope s_steps_for) := ⟨rfl, rfl, rfl, by decide +kernel, rfl, by decide +kernel, by decide +kernel⟩
theorem no_steps_for {vs : List V} {H : Hp} {Q : VK} {E : XK} (h : sp_steps_for K 0 vs H Q E) : False := by
  obtain ⟨_, _, _, _, _, ⟨_, _, _, _, _, _, h, _⟩, _⟩ := h
  exact Nat.not_lt_zero _ h
theorem ok_steps_forN (T : Txt K mg) : ∀ n : Nat, Cal P w K mg base CX0 (n + 1) (He.ga K "steps_for") ["request", "places", "level"] (sp_steps_for K n)
  | 0 => by
    obtain ⟨fd, F⟩ := T.f_steps_for
    exact ⟨fd, ⟨fun vs H Q E h => (no_steps_for h).elim, fun A outer s H args us vs Q E _ _ _ _ h => (no_steps_for h).elim⟩, F.bindsN fun _ _ _ _ _ _ us hl => match us, hl with | [_, _, _], _ => rfl, F.kp⟩
  | n + 1 => by
    obtain ⟨fd, F⟩ := T.f_steps_for
    obtain ⟨fd_steps_for, G_steps_for, b_steps_for, k_steps_for⟩ := (ok_steps_forN T n).ex
    obtain ⟨_, c_OTHERS⟩ := T.c_OTHERS
    refine ⟨fd, ?_, F.bindsN fun _ _ _ _ _ _ us hl => match us, hl with | [_, _, _], _ => rfl, F.kp⟩
    rw [show n + 1 + 1 = n + 1 + 1 by omega]
    refine F.ok sc_steps_for (fun vs H Q E h => pu_len (fun ds r ⟨_, _, _, _, _, e, _⟩ => by rw [e]; rfl) h) (fun cdv A outer s H vs Q E hr h => ⟨t_steps_for K n, PSs.nox ?_, pure_steps_for T.ak h⟩)
    exact (pss_cons (ps_asg (pv 1) (pg_tup rfl (pgs_cons (pg_name (i := 7) sc_steps_for.nd rfl (by first | exact Or.inl rfl | exact Or.inr rfl)) (pgs_cons (pg_name (i := 8) sc_steps_for.nd rfl (by first | exact Or.inl rfl | exact Or.inr rfl)) (pgs_cons (pg_name (i := 9) sc_steps_for.nd rfl (by first | exact Or.inl rfl | exact Or.inr rfl)) pgs_nil)))))
  (pss_cons (ps_set (i := 3) sc_steps_for.nd rfl (by first | exact Or.inl rfl | exact Or.inr rfl) (pe_ix ix_tup (pv 0) pe_int (fun _ _ => rfl)))
  (pss_cons (ps_if (pt_cmpR op_in_seq (pv 3) (pe_glob rfl T.g_LEAVES rfl) (by rfl)) (pss_cons (ps_asg (pe_ifExp (pt_cmpR op_eq (pv 3) pe_str (nomark _)) (pe_tup (pa_cons (pv 8) (pa_cons (pv 9) pa_nil))) (pe_tup (pa_cons (pv 9) (pa_cons (pv 8) pa_nil)))) (pg_tup rfl (pgs_cons (pg_name (i := 10) sc_steps_for.nd rfl (by first | exact Or.inl rfl | exact Or.inr rfl)) (pgs_cons (pg_name (i := 11) sc_steps_for.nd rfl (by first | exact Or.inl rfl | exact Or.inr rfl)) pgs_nil))))
  (pss_one (ps_ret (pe_lst (pa_cons (pe_tup (pa_cons pe_str (pa_cons (pv 7) (pa_cons (pe_ix ix_tup (pv 0) pe_int (fun _ _ => rfl)) (pa_cons (pv 10) (pa_cons (pv 11) pa_nil)))))) pa_nil))))) pss_nil)
  (pss_cons (ps_if (pt_cmpR op_in_seq (pv 3) (pe_glob rfl T.g_SIMPLE rfl) (by rfl)) (pss_one (ps_ret (pe_lst (pa_cons (pe_tup (pa_cons pe_str (pa_cons (pv 7) (pa_cons (pe_ifExp (pt_cmpR op_eq (pv 3) pe_str (nomark _)) (pv 8) (pv 9)) pa_nil)))) pa_nil)))) pss_nil)
  (pss_cons (ps_if (pt_cmpR op_eq (pv 3) pe_str (nomark _)) (pss_one (ps_ret (pe_call G_steps_for (hr.mono (by omega)) (by rfl) T.g_steps_for k_steps_for b_steps_for .nil pass0 (pa_cons (pe_ix ix_tup (pv 0) pe_int (fun _ _ => rfl)) (pa_cons (pe_tup (pa_cons (pv 7) (pa_cons (pv 9) (pa_cons (pv 8) pa_nil)))) (pa_cons (pv 2) pa_nil)))))) pss_nil)
  (pss_cons (ps_set (i := 4) sc_steps_for.nd rfl (by first | exact Or.inl rfl | exact Or.inr rfl) (pe_op op_add (pe_op op_add (pe_glob rfl c_OTHERS ⟨_, rfl⟩) pe_int) (pv 2)))
  (pss_cons (ps_set (i := 5) sc_steps_for.nd rfl (by first | exact Or.inl rfl | exact Or.inr rfl) (pe_ifExp (pt_cmpR op_eq (pv 3) pe_str (nomark _)) (pe_tup (pa_cons (pv 4) (pa_cons (pv 9) pa_nil))) (pe_tup (pa_cons (pv 8) (pa_cons (pv 4) pa_nil)))))
  (pss_cons (ps_set (i := 6) sc_steps_for.nd rfl (by first | exact Or.inl rfl | exact Or.inr rfl) (pe_call G_steps_for (hr.mono (by omega)) (by rfl) T.g_steps_for k_steps_for b_steps_for .nil pass0 (pa_cons (pe_ix ix_tup (pv 0) pe_int (fun _ _ => rfl)) (pa_cons (pe_tup (pa_cons (pv 7) (pa_cons (pe_ix ix_tup (pv 5) pe_int (fun _ _ => rfl)) (pa_cons (pe_ix ix_tup (pv 5) pe_int (fun _ _ => rfl)) pa_nil)))) (pa_cons (pe_op op_add (pv 2) pe_int) pa_nil)))))
  (pss_one (ps_ret (pe_op op_cat (pv 6) (pe_call G_steps_for (hr.mono (by omega)) (by rfl) T.g_steps_for k_steps_for b_steps_for .nil pass0 (pa_cons (pe_ix ix_tup (pv 0) pe_int (fun _ _ => rfl)) (pa_cons (pe_tup (pa_cons (pv 4) (pa_cons (pv 8) (pa_cons (pv 9) pa_nil)))) (pa_cons (pe_op op_add (pv 2) pe_int) pa_nil)))))))))))))))
theorem ok_steps_for (T : Txt K mg) : Cal P w K mg base CX0 15 (He.ga K "steps_for") ["request", "places", "level"] (sp_steps_for K 14) := ok_steps_forN T 14
-- names of program_for: N_program_for
theorem sc_program_for : FnScope N_program_for ["request"] (defScope s_program_for) := ⟨rfl, rfl, rfl, by decide +kernel, rfl, by decide +kernel, by decide +kernel⟩
theorem ok_program_for (T : Txt K mg) : Cal P w K mg base CX0 19 (He.ga K "program_for") ["request"] (sp_program_for K) := by
  obtain ⟨fd, F⟩ := T.f_program_for
  obtain ⟨fd_need_request, G_need_request, b_need_request, k_need_request⟩ := (ok_need_request (P := P) (w := w) (base := base) T).ex
  obtain ⟨fd_steps_for, G_steps_for, b_steps_for, k_steps_for⟩ := (ok_steps_for (P := P) (w := w) (base := base) T).ex
  obtain ⟨fd_nested, G_nested, b_nested, k_nested⟩ := (ok_nested (P := P) (w := w) (base := base) T).ex
  obtain ⟨_, c_FIRST⟩ := T.c_FIRST
  obtain ⟨_, c_MOST_NESTED⟩ := T.c_MOST_NESTED
  obtain ⟨_, c_OTHERS⟩ := T.c_OTHERS
  obtain ⟨_, c_PICKED⟩ := T.c_PICKED
  refine ⟨fd, ?_, F.bindsN fun _ _ _ _ _ _ us hl => match us, hl with | [_], _ => rfl, F.kp⟩
  refine F.ok sc_program_for (fun vs H Q E h => pu_len (fun ds r ⟨_, e, _⟩ => by rw [e]; rfl) h) (fun cdv A outer s H vs Q E hr h => ⟨(t_program_for K), PSs.nox ?_, pure_program_for h⟩)
  exact (pss_cons (ps_expr (pe_call G_need_request (hr.mono (by decide)) (by rfl) T.g_need_request k_need_request b_need_request .nil pass0 (pa_cons (pv 0) pa_nil)))
  (pss_cons (ps_set (i := 1) sc_program_for.nd rfl (by first | exact Or.inl rfl | exact Or.inr rfl) (pe_call G_nested (hr.mono (by decide)) (by rfl) T.g_nested k_nested b_nested .nil pass0 (pa_cons (pv 0) pa_nil)))
  (pss_cons (ps_if (pt_cmpR op_gt (pv 1) (pe_glob rfl c_MOST_NESTED ⟨_, rfl⟩) (nomark _)) (pss_one ps_never) pss_nil)
  (pss_one (ps_ret (pe_call G_steps_for (hr.mono (by decide)) (by rfl) T.g_steps_for k_steps_for b_steps_for .nil pass0 (pa_cons (pv 0) (pa_cons (pe_tup (pa_cons (pe_glob rfl c_FIRST ⟨_, rfl⟩) (pa_cons (pe_glob rfl c_PICKED ⟨_, rfl⟩) (pa_cons (pe_glob rfl c_OTHERS ⟨_, rfl⟩) pa_nil)))) (pa_cons pe_int pa_nil)))))))))
-- names of _law_cell: N_law_cell
theorem sc_law_cell : FnScope N_law_cell ["script", "k"] (defScope s_law_cell) := ⟨rfl, rfl, rfl, by decide +kernel, rfl, by decide +kernel, by decide +kernel⟩
theorem ok_law_cell (T : Txt K mg) : Cal P w K mg base CX0 1 (He.ga K "_law_cell") ["script", "k"] (sp_law_cell K 122949869 111) := by
  obtain ⟨fd, F⟩ := T.f_law_cell
  refine ⟨fd, ?_, F.bindsN fun _ _ _ _ _ _ us hl => match us, hl with | [_, _], _ => rfl, F.kp⟩
  refine F.ok sc_law_cell (fun vs H Q E h => pu_len (fun ds r ⟨_, _, e, _⟩ => by rw [e]; rfl) h) (fun cdv A outer s H vs Q E hr h => ⟨(t_law_cell K 122949869 111), PSs.nox ?_, pure_law_cell h⟩)
  exact (pss_cons (ps_if (pt_cmpR op_lt (pv 1) (pe_callB call_lenA (by rfl) T.n_len bt_len (pa_cons (pv 0) pa_nil)) (nomark _)) (pss_one (ps_ret (pe_ix ix_list (pv 0) (pv 1) (fun _ _ => rfl)))) pss_nil)
  (pss_one (ps_ret (pe_op op_add (pe_op op_mul pe_int (pv 1)) pe_int))))
-- names of _law_box: N_law_box
theorem sc_law_box : FnScope N_law_box ["cell"] (defScope s_law_box) := ⟨rfl, rfl, rfl, by decide +kernel, rfl, by decide +kernel, by decide +kernel⟩
theorem ok_law_box (T : Txt K mg) : Cal P w K mg base CX0 1 (He.ga K "_law_box") ["cell"] (sp_law_box K) := by
  obtain ⟨fd, F⟩ := T.f_law_box
  refine ⟨fd, ?_, F.bindsN fun _ _ _ _ _ _ us hl => match us, hl with | [_], _ => rfl, F.kp⟩
  refine F.ok sc_law_box (fun vs H Q E h => by obtain ⟨_, _, rfl, _⟩ := h; rfl) (fun cdv A outer s H vs Q E hr h => ⟨(t_law_box K), PSs.nox ?_, pure_law_box h⟩)
  exact (pss_one (ps_ret (pe_lst (pa_cons (pe_callB (cr_max2 rfl) (by rfl) T.n_max bt_max (pa_cons pe_int (pa_cons (pe_op op_sub (pv 0) (pe_op op_pow pe_int pe_int)) pa_nil))) (pa_cons (pe_op op_mod (pv 0) pe_int) (pa_cons pe_int pa_nil))))))
-- names of _law_take: N_law_take
theorem sc_law_take : FnScope N_law_take ["box", "many"] (defScope s_law_take) := ⟨rfl, rfl, rfl, by decide +kernel, rfl, by decide +kernel, by decide +kernel⟩
theorem ok_law_take (T : Txt K mg) : Cal P w K mg base CX0 1 (He.ga K "_law_take") ["box", "many"] (sp_law_take K) := by
  obtain ⟨fd, F⟩ := T.f_law_take
  refine ⟨fd, ?_, F.bindsN fun _ _ _ _ _ _ us hl => match us, hl with | [_, _], _ => rfl, F.kp⟩
  refine F.ok sc_law_take (fun vs H Q E h => bx_len (fun ds ⟨_, e, _⟩ => by rw [e]; rfl) h) (fun cdv A outer s H vs Q E hr h => ⟨(t_law_take K 111), PSs.nox ?_, pure_law_take (by decide) h⟩)
  exact (pss_cons (ps_if (pt_cmpR op_gt (pe_ix ix_list (pv 0) pe_int (fun _ _ => rfl)) pe_int (nomark _)) (pss_cons (ps_set (i := 4) sc_law_take.nd rfl (by first | exact Or.inl rfl | exact Or.inr rfl) (pe_op op_mod (pe_ix ix_list (pv 0) pe_int (fun _ _ => rfl)) (pv 1)))
  (pss_cons (ps_asg (pe_op op_fdiv (pe_ix ix_list (pv 0) pe_int (fun _ _ => rfl)) (pv 1)) (pg_sub (pv 0) pe_int set_list))
  (pss_one (ps_ret (pv 4))))) pss_nil)
  (pss_cons (ps_asg (pe_op op_add (pe_ix ix_list (pv 0) pe_int (fun _ _ => rfl)) pe_int) (pg_sub (pv 0) pe_int set_list))
  (pss_cons (ps_set (i := 2) sc_law_take.nd rfl (by first | exact Or.inl rfl | exact Or.inr rfl) (pe_op op_mod (pe_op op_pow (pe_op op_add (pe_op op_add (pe_ix ix_list (pv 0) pe_int (fun _ _ => rfl)) (pe_op op_mul pe_int (pe_ix ix_list (pv 0) pe_int (fun _ _ => rfl)))) pe_int) pe_int) pe_int))
  (pss_cons (ps_set (i := 3) sc_law_take.nd rfl (by first | exact Or.inl rfl | exact Or.inr rfl) (pe_op op_mod (pe_op op_pow (pe_op op_add (pe_op op_add (pe_op op_fdiv (pv 2) pe_int) (pe_op op_mul (pe_op op_mul pe_int (pe_ix ix_list (pv 0) pe_int (fun _ _ => rfl))) (pe_ix ix_list (pv 0) pe_int (fun _ _ => rfl)))) pe_int) pe_int) pe_int))
  (pss_one (ps_ret (pe_op op_mod (pe_op op_add (pe_op op_fdiv (pv 2) pe_int) (pe_op op_mul pe_int (pe_op op_fdiv (pv 3) pe_int))) (pv 1))))))))
-- names of _law_even: N_law_even
theorem sc_law_even : FnScope N_law_even ["told", "due"] (defScope s_law_even) := ⟨rfl, rfl, rfl, by decide +kernel, rfl, by decide +kernel, by decide +kernel⟩
theorem ok_law_even (T : Txt K mg) : CalG P w K mg base CX0 1 (He.ga K "_law_even") ["told", "due"] (sp_law_even K) := by
  obtain ⟨fd, F⟩ := T.f_law_even
  refine ⟨fd, ?_, F.bindsN fun _ _ _ _ _ _ us hl => match us, hl with | [_, _], _ => rfl, F.kp⟩
  refine R.FunD.okG F sc_law_even (fun vs H Q E h => pu_len (fun ds r ⟨_, e, _⟩ => by rw [e]; rfl) h) (fun cdv A outer s H vs Q E hgd hr h => ⟨(t_law_even K), PSs.nox ?_, pure_law_even h⟩)
  exact (pss_one (ps_ret (pe_and (pe_cmpR (op_eqD hr.units) (pv 0) (pv 1) (nomark _)) (pe_one (pe_cmpR op_eq (pe_callB (call_reprD hgd hr.units) (by rfl) T.n_repr bt_repr (pa_cons (pv 0) pa_nil)) (pe_callB (call_reprD hgd hr.units) (by rfl) T.n_repr bt_repr (pa_cons (pv 1) pa_nil)) (nomark _))))))
-- names of _law_names: N_law_names
theorem sc_law_names : FnScope N_law_names ["box", "many"] (defScope s_law_names) := ⟨rfl, rfl, rfl, by decide +kernel, rfl, by decide +kernel, by decide +kernel⟩
theorem ok_law_names (T : Txt K mg) : Cal P w K mg base CX0 2 (He.ga K "_law_names") ["box", "many"] (sp_law_names K) := by
  obtain ⟨fd, F⟩ := T.f_law_names
  obtain ⟨fd_law_take, G_law_take, b_law_take, k_law_take⟩ := (ok_law_take (P := P) (w := w) (base := base) T).ex
  refine ⟨fd, ?_, F.bindsN fun _ _ _ _ _ _ us hl => match us, hl with | [_, _], _ => rfl, F.kp⟩
  refine F.ok sc_law_names (fun vs H Q E h => bx_len (fun ds ⟨_, e, _⟩ => by rw [e]; rfl) h) (fun cdv A outer s H vs Q E hr h => ⟨(t_law_names K), PSs.nox ?_, pure_law_names h⟩)
  exact (pss_cons (ps_set (i := 2) sc_law_names.nd rfl (by first | exact Or.inl rfl | exact Or.inr rfl) pe_str)
  (pss_cons (ps_asg (pe_tup (pa_cons (pe_call G_law_take (hr.mono (by decide)) (by rfl) T.g__law_take k_law_take b_law_take .nil pass0 (pa_cons (pv 0) (pa_cons pe_int pa_nil))) (pa_cons (pe_call G_law_take (hr.mono (by decide)) (by rfl) T.g__law_take k_law_take b_law_take .nil pass0 (pa_cons (pv 0) (pa_cons pe_int pa_nil))) (pa_cons (pe_call G_law_take (hr.mono (by decide)) (by rfl) T.g__law_take k_law_take b_law_take .nil pass0 (pa_cons (pv 0) (pa_cons pe_int pa_nil))) pa_nil)))) (pg_tup rfl (pgs_cons (pg_name (i := 5) sc_law_names.nd rfl (by first | exact Or.inl rfl | exact Or.inr rfl)) (pgs_cons (pg_name (i := 6) sc_law_names.nd rfl (by first | exact Or.inl rfl | exact Or.inr rfl)) (pgs_cons (pg_name (i := 7) sc_law_names.nd rfl (by first | exact Or.inl rfl | exact Or.inr rfl)) pgs_nil)))))
  (pss_cons (ps_set (i := 3) sc_law_names.nd rfl (by first | exact Or.inl rfl | exact Or.inr rfl) (pe_bm PySem.F.plainAttrs_str PySem.F.slot_str_join PySem.F.type_str_join mt_joinR pe_str (pa_cons (pe_lc (own := [("k", 8)]) (g := (gName 8)) (tt := tYes) rfl sc_law_names.nd (pi_range1 (by rfl) T.n_range (pa_cons (pe_call G_law_take (hr.mono (by decide)) (by rfl) T.g__law_take k_law_take b_law_take .nil pass0 (pa_cons (pv 0) (pa_cons pe_int pa_nil))) pa_nil)) (blkOk_by (N := N_law_names) (own := [("k", 8)]) (by first | decide +kernel | kernel_rfl)) (fun _ _ _ _ _ => (pg_name (i := 8) sc_law_names.nd rfl (by first | exact Or.inl rfl | exact Or.inr rfl))) (fun _ _ _ _ _ => pts_nil) (fun _ _ _ _ _ => (pe_ix ix_str (pv 2) (pe_call G_law_take (hr.mono (by decide)) (by rfl) T.g__law_take k_law_take b_law_take .nil pass0 (pa_cons (pv 0) (pa_cons pe_int pa_nil))) (fun _ _ => rfl)))) pa_nil)))
  (pss_cons (ps_if (PW.pt (pw_and (pt_cmpR op_eq (pv 7) pe_int (nomark _)) (pw_and1 (pt_cmpR op_lt (pv 1) pe_int (nomark _))))) (pss_one (ps_ret (pe_lc (own := [("k", 8)]) (g := (gName 8)) (tt := tYes) rfl sc_law_names.nd (pi_range1 (by rfl) T.n_range (pa_cons (pv 1) pa_nil)) (blkOk_by (N := N_law_names) (own := [("k", 8)]) (by first | decide +kernel | kernel_rfl)) (fun _ _ _ _ _ => (pg_name (i := 8) sc_law_names.nd rfl (by first | exact Or.inl rfl | exact Or.inr rfl))) (fun _ _ _ _ _ => pts_nil) (fun _ _ _ _ _ => (pe_op op_mulS (pe_ix ix_str (pv 2) (pv 5) (fun _ _ => rfl)) (pe_op op_add (pv 8) pe_int)))))) pss_nil)
  (pss_cons (ps_setLc (i := 4) (own := [("k", 8)]) (g := (gName 8)) (tt := tYes) rfl sc_law_names.nd rfl rfl (sw_true rfl rfl rfl (by first | rfl | decide +kernel | kernel_rfl)) (pi_range1 (by rfl) T.n_range (pa_cons (pv 1) pa_nil)) (blkOk_by (N := N_law_names) (own := [("k", 8)]) (by first | decide +kernel | kernel_rfl)) (fun _ _ _ _ _ => (pg_name (i := 8) sc_law_names.nd rfl (by first | exact Or.inl rfl | exact Or.inr rfl))) (fun _ _ _ _ _ => pts_nil) (fun _ _ _ _ _ => (pe_op op_addS (pe_ix ix_str (pv 2) (pe_op op_mod (pe_op op_add (pv 5) (pe_op op_mul pe_int (pv 8))) pe_int) (fun _ _ => rfl)) (pe_ix ix_str (pv 2) (pe_op op_fdiv (pv 8) pe_int) (fun _ _ => rfl)))))
  (pss_one (ps_ret (pe_lc (own := [("word", 9)]) (g := (gName 9)) (tt := tYes) rfl sc_law_names.nd (pi_list (pv 4)) (blkOk_by (N := N_law_names) (own := [("word", 9)]) (by first | decide +kernel | kernel_rfl)) (fun _ _ _ _ _ => (pg_name (i := 9) sc_law_names.nd rfl (by first | exact Or.inl rfl | exact Or.inr rfl))) (fun _ _ _ _ _ => pts_nil) (fun _ _ _ _ _ => (pe_op op_addS (pe_op op_addS (pe_slice sl_str (pv 3) po_none (po_some (pv 6))) (pv 9)) (pe_slice sl_str (pv 3) (po_some (pv 6)) po_none)))))))))))
-- names of _law_parts: N_law_parts
theorem sc_law_parts : FnScope N_law_parts ["request"] (defScope s_law_parts) := ⟨rfl, rfl, rfl, by decide +kernel, rfl, by decide +kernel, by decide +kernel⟩
theorem ok_law_parts (T : Txt K mg) : Cal P w K mg base CX0 1 (He.ga K "_law_parts") ["request"] (sp_law_parts K) := by
  obtain ⟨fd, F⟩ := T.f_law_parts
  refine ⟨fd, ?_, F.bindsN fun _ _ _ _ _ _ us hl => match us, hl with | [_], _ => rfl, F.kp⟩
  refine F.ok sc_law_parts (fun vs H Q E h => pu_len (fun ds r ⟨_, e, _⟩ => by rw [e]; rfl) h) (fun cdv A outer s H vs Q E hr h => ⟨(t_law_parts K), PSs.nox ?_, pure_law_parts h⟩)
  exact (pss_one (ps_ret (pe_lc (own := [("part", 1)]) (g := (gName 1)) (tt := (tB (tCB (rIsi K) (tCons (tVar 1) (tCons (tC (.ty "tuple")) tNil))))) rfl sc_law_parts.nd (pi_tup (pe_slice sl_tup (pv 0) (po_some pe_int) po_none)) (blkOk_by (N := N_law_parts) (own := [("part", 1)]) (by first | decide +kernel | kernel_rfl)) (fun _ _ _ _ _ => (pg_name (i := 1) sc_law_parts.nd rfl (by first | exact Or.inl rfl | exact Or.inr rfl))) (fun _ _ _ _ _ => (pts_one (pt_val (pe_callB call_isi (by rfl) T.n_isinstance bt_isinstance (pa_cons (pv 1) (pa_cons (pe_bltn (v := .ty "tuple") (by rfl) T.n_tuple bt_tuple rfl) pa_nil)))))) (fun _ _ _ _ _ => (pv 1)))))
-- names of _law_fits: N_law_fits
theorem sc_law_fits : FnScope N_law_fits ["request", "row"] (defScope s_law_fits) := ⟨rfl, rfl, rfl, by decide +kernel, rfl, by decide +kernel, by decide +kernel⟩
theorem no_law_fits {vs : List V} {H : Hp} {Q : VK} {E : XK} (h : sp_law_fits K 0 vs H Q E) : False := by
  obtain ⟨_, _, _, _, _, ⟨_, _, _, h, _⟩, _⟩ := h
  exact Nat.not_lt_zero _ h
theorem ok_law_fitsN (T : Txt K mg) : ∀ n : Nat, Cal P w K mg base CX0 (n + 2) (He.ga K "_law_fits") ["request", "row"] (sp_law_fits K n)
  | 0 => by
    obtain ⟨fd, F⟩ := T.f_law_fits
    exact ⟨fd, ⟨fun vs H Q E h => (no_law_fits h).elim, fun A outer s H args us vs Q E _ _ _ _ h => (no_law_fits h).elim⟩, F.bindsN fun _ _ _ _ _ _ us hl => match us, hl with | [_, _], _ => rfl, F.kp⟩
  | n + 1 => by
    obtain ⟨fd, F⟩ := T.f_law_fits
    obtain ⟨fd_law_fits, G_law_fits, b_law_fits, k_law_fits⟩ := (ok_law_fitsN T n).ex
    obtain ⟨fd_law_parts, G_law_parts, b_law_parts, k_law_parts⟩ := (ok_law_parts (P := P) (w := w) (base := base) T).ex
    refine ⟨fd, ?_, F.bindsN fun _ _ _ _ _ _ us hl => match us, hl with | [_, _], _ => rfl, F.kp⟩
    rw [show n + 1 + 2 = n + 2 + 1 by omega]
    refine F.ok sc_law_fits (fun vs H Q E h => pu_len (fun ds r ⟨_, _, e, _⟩ => by rw [e]; rfl) h) (fun cdv A outer s H vs Q E hr h => ⟨t_law_fits K n, PSs.nox ?_, pure_law_fits h⟩)
    exact (pss_cons (ps_set (i := 2) sc_law_fits.nd rfl (by first | exact Or.inl rfl | exact Or.inr rfl) (pe_ix ix_tup (pv 0) pe_int (fun _ _ => rfl)))
  (pss_cons (ps_if (PW.pt (pw_or (pt_cmpR op_eq (pv 2) pe_str (nomark _)) (pw_or1 (pt_cmpR op_eq (pv 2) pe_str (nomark _))))) (pss_one (ps_ret (pe_cmpR op_eq (pe_cmpR op_eq (pe_ix ix_str (pv 1) (pe_ix ix_tup (pv 0) pe_int (fun _ _ => rfl)) (fun _ _ => rfl)) pe_str (nomark _)) (pe_cmpR op_eq (pv 2) pe_str (nomark _)) (nomark _)))) pss_nil)
  (pss_cons (ps_if (PW.pt (pw_or (pt_cmpR op_eq (pv 2) pe_str (nomark _)) (pw_or1 (pt_cmpR op_eq (pv 2) pe_str (nomark _))))) (pss_one (ps_ret (pe_cmpR op_eq (pv 2) pe_str (nomark _)))) pss_nil)
  (pss_cons (ps_setLc (i := 3) (own := [("part", 4)]) (g := (gName 4)) (tt := tYes) rfl sc_law_fits.nd rfl rfl (sw_true rfl rfl rfl (by first | rfl | decide +kernel | kernel_rfl)) (pi_list (pe_call G_law_parts (hr.mono (by omega)) (by rfl) T.g__law_parts k_law_parts b_law_parts .nil pass0 (pa_cons (pv 0) pa_nil))) (blkOk_by (N := N_law_fits) (own := [("part", 4)]) (by first | decide +kernel | kernel_rfl)) (fun _ _ _ _ _ => (pg_name (i := 4) sc_law_fits.nd rfl (by first | exact Or.inl rfl | exact Or.inr rfl))) (fun _ _ _ _ _ => pts_nil) (fun _ _ _ _ _ => (pe_call G_law_fits (hr.mono (by omega)) (by rfl) T.g__law_fits k_law_fits b_law_fits .nil pass0 (pa_cons (pv 4) (pa_cons (pv 1) pa_nil)))))
  (pss_cons (ps_if (pt_cmpR op_eq (pv 2) pe_str (nomark _)) (pss_one (ps_ret (pe_not (pe_ix ix_list (pv 3) pe_int (fun _ _ => rfl))))) pss_nil)
  (pss_one (ps_ret (pe_ifExp (pt_cmpR op_eq (pv 2) pe_str (nomark _)) (pe_cmpR (op_eqD hr.units) (pv 3) (pe_lst (pa_cons pe_bl (pa_cons pe_bl pa_nil))) (nomark _)) (pe_cmpR op_in_seq pe_bl (pv 3) (by rfl))))))))))
theorem ok_law_fits (T : Txt K mg) : Cal P w K mg base CX0 16 (He.ga K "_law_fits") ["request", "row"] (sp_law_fits K 14) := ok_law_fitsN T 14
-- names of _law_holes: N_law_holes
theorem sc_law_holes : FnScope N_law_holes ["request"] (defScope s_law_holes) := ⟨rfl, rfl, rfl, by decide +kernel, rfl, by decide +kernel, by decide +kernel⟩
theorem no_law_holes {vs : List V} {H : Hp} {Q : VK} {E : XK} (h : sp_law_holes K 0 vs H Q E) : False := by
  obtain ⟨_, _, _, _, _, ⟨_, _, h, _⟩, _⟩ := h
  exact Nat.not_lt_zero _ h
theorem ok_law_holesN (T : Txt K mg) : ∀ n : Nat, Cal P w K mg base CX0 (n + 2) (He.ga K "_law_holes") ["request"] (sp_law_holes K n)
  | 0 => by
    obtain ⟨fd, F⟩ := T.f_law_holes
    exact ⟨fd, ⟨fun vs H Q E h => (no_law_holes h).elim, fun A outer s H args us vs Q E _ _ _ _ h => (no_law_holes h).elim⟩, F.bindsN fun _ _ _ _ _ _ us hl => match us, hl with | [_], _ => rfl, F.kp⟩
  | n + 1 => by
    obtain ⟨fd, F⟩ := T.f_law_holes
    obtain ⟨fd_law_holes, G_law_holes, b_law_holes, k_law_holes⟩ := (ok_law_holesN T n).ex
    obtain ⟨fd_law_parts, G_law_parts, b_law_parts, k_law_parts⟩ := (ok_law_parts (P := P) (w := w) (base := base) T).ex
    refine ⟨fd, ?_, F.bindsN fun _ _ _ _ _ _ us hl => match us, hl with | [_], _ => rfl, F.kp⟩
    rw [show n + 1 + 2 = n + 2 + 1 by omega]
    refine F.ok sc_law_holes (fun vs H Q E h => pu_len (fun ds r ⟨_, e, _⟩ => by rw [e]; rfl) h) (fun cdv A outer s H vs Q E hr h => ⟨t_law_holes K n, PSs.nox ?_, pure_law_holes h⟩)
    exact (pss_cons (ps_if (PW.pt (pw_or (pt_cmpR op_eq (pe_ix ix_tup (pv 0) pe_int (fun _ _ => rfl)) pe_str (nomark _)) (pw_or1 (pt_cmpR op_eq (pe_ix ix_tup (pv 0) pe_int (fun _ _ => rfl)) pe_str (nomark _))))) (pss_one (ps_ret (pe_lst (pa_cons (pe_ix ix_tup (pv 0) pe_int (fun _ _ => rfl)) pa_nil)))) pss_nil)
  (pss_cons (ps_set (i := 1) sc_law_holes.nd rfl (by first | exact Or.inl rfl | exact Or.inr rfl) (pe_lst pa_nil))
  (pss_cons (ps_for PassesOwn.never rfl (pi_list (pe_call G_law_parts (hr.mono (by omega)) (by rfl) T.g__law_parts k_law_parts b_law_parts .nil pass0 (pa_cons (pv 0) pa_nil))) (pg_name (i := 2) sc_law_holes.nd rfl (by first | exact Or.inl rfl | exact Or.inr rfl)) (pss_one (ps_expr (pe_bm PySem.F.plainAttrs_list PySem.F.slot_list_extend PySem.F.type_list_extend mt_extend (pv 1) (pa_cons (pe_call G_law_holes (hr.mono (by omega)) (by rfl) T.g__law_holes k_law_holes b_law_holes .nil pass0 (pa_cons (pv 2) pa_nil)) pa_nil)))))
  (pss_one (ps_ret (pv 1))))))
theorem ok_law_holes (T : Txt K mg) : Cal P w K mg base CX0 16 (He.ga K "_law_holes") ["request"] (sp_law_holes K 14) := ok_law_holesN T 14
-- names of _law_step: N_law_step
theorem sc_law_step : FnScope N_law_step ["box", "holes"] (defScope s_law_step) := ⟨rfl, rfl, rfl, by decide +kernel, rfl, by decide +kernel, by decide +kernel⟩
theorem ok_law_step (T : Txt K mg) : Cal P w K mg base CX0 2 (He.ga K "_law_step") ["box", "holes"] (sp_law_step K) := by
  obtain ⟨fd, F⟩ := T.f_law_step
  obtain ⟨fd_law_take, G_law_take, b_law_take, k_law_take⟩ := (ok_law_take (P := P) (w := w) (base := base) T).ex
  refine ⟨fd, ?_, F.bindsN fun _ _ _ _ _ _ us hl => match us, hl with | [_, _], _ => rfl, F.kp⟩
  refine F.ok sc_law_step (fun vs H Q E h => by obtain ⟨_, h⟩ := h; exact bx_len (fun ds ⟨e, _⟩ => by rw [e]; rfl) h) (fun cdv A outer s H vs Q E hr h => ⟨(t_law_step K), PSs.nox ?_, pure_law_step h⟩)
  exact (pss_cons (ps_setLc (i := 2) (own := [("k", 3)]) (g := (gName 3)) (tt := tYes) rfl sc_law_step.nd rfl rfl (sw_true rfl rfl rfl (by first | rfl | decide +kernel | kernel_rfl)) (pi_range1 (by rfl) T.n_range (pa_cons pe_int pa_nil)) (blkOk_by (N := N_law_step) (own := [("k", 3)]) (by first | decide +kernel | kernel_rfl)) (fun _ _ _ _ _ => (pg_name (i := 3) sc_law_step.nd rfl (by first | exact Or.inl rfl | exact Or.inr rfl))) (fun _ _ _ _ _ => pts_nil) (fun _ _ _ _ _ => (pe_call G_law_take (hr.mono (by decide)) (by rfl) T.g__law_take k_law_take b_law_take .nil pass0 (pa_cons (pv 0) (pa_cons (pe_ix ix_list (pe_lst (pa_cons pe_int (pa_cons pe_int (pa_cons pe_int pa_nil)))) (pe_call G_law_take (hr.mono (by decide)) (by rfl) T.g__law_take k_law_take b_law_take .nil pass0 (pa_cons (pv 0) (pa_cons pe_int pa_nil))) (fun _ _ => rfl)) pa_nil)))))
  (pss_cons (ps_if (pt_cmpR op_eq (pe_call G_law_take (hr.mono (by decide)) (by rfl) T.g__law_take k_law_take b_law_take .nil pass0 (pa_cons (pv 0) (pa_cons pe_int pa_nil))) pe_int (nomark _)) (pss_one (ps_ret (pe_tup (pa_cons pe_str (pa_cons (pe_ix ix_list (pv 2) pe_int (fun _ _ => rfl)) (pa_cons (pe_ix ix_list (pv 2) pe_int (fun _ _ => rfl)) pa_nil)))))) pss_nil)
  (pss_one (ps_ret (pe_tup (pa_cons pe_str (pa_cons (pe_ix ix_list (pv 2) pe_int (fun _ _ => rfl)) (pa_cons (pe_ix ix_list (pv 1) (pe_call G_law_take (hr.mono (by decide)) (by rfl) T.g__law_take k_law_take b_law_take .nil pass0 (pa_cons (pv 0) (pa_cons (pe_callB call_lenA (by rfl) T.n_len bt_len (pa_cons (pv 1) pa_nil)) pa_nil))) (fun _ _ => rfl)) (pa_cons (pe_ix ix_list (pv 2) pe_int (fun _ _ => rfl)) (pa_cons (pe_ix ix_list (pv 2) pe_int (fun _ _ => rfl)) pa_nil))))))))))
-- names of _law_landing: N_law_landing
theorem sc_law_landing : FnScope N_law_landing ["program", "row"] (defScope s_law_landing) := ⟨rfl, rfl, rfl, by decide +kernel, rfl, by decide +kernel, by decide +kernel⟩
theorem ok_law_landing (T : Txt K mg) : Cal P w K mg base CX0 1 (He.ga K "_law_landing") ["program", "row"] (sp_law_landing K) := by
  obtain ⟨fd, F⟩ := T.f_law_landing
  refine ⟨fd, ?_, F.bindsN fun _ _ _ _ _ _ us hl => match us, hl with | [_, _], _ => rfl, F.kp⟩
  refine F.ok sc_law_landing (fun vs H Q E h => pu_len (fun ds r ⟨_, _, e, _⟩ => by rw [e]; rfl) h) (fun cdv A outer s H vs Q E hr h => ⟨(t_law_landing K), PSs.nox ?_, pure_law_landing h⟩)
  exact (pss_cons (ps_set (i := 2) sc_law_landing.nd rfl (by first | exact Or.inl rfl | exact Or.inr rfl) pe_int)
  (pss_cons (ps_for PassesOwn.never rfl (pi_list (pv 0)) (pg_name (i := 3) sc_law_landing.nd rfl (by first | exact Or.inl rfl | exact Or.inr rfl)) (pss_one (ps_if (pt_cmpR op_eq (pe_ix ix_tup (pv 3) pe_int (fun _ _ => rfl)) (pv 2) (nomark _)) (pss_one (ps_set (i := 2) sc_law_landing.nd rfl (by first | exact Or.inl rfl | exact Or.inr rfl) (pe_ifExp (pt_cmpR op_eq (pe_ix ix_tup (pv 3) pe_int (fun _ _ => rfl)) pe_str (nomark _)) (pe_ix ix_tup (pv 3) pe_int (fun _ _ => rfl)) (pe_ix ix_tup (pv 3) (pe_op op_sub pe_int (pe_callTy call_intR (by rfl) T.n_int bt_int (pa_cons (pe_cmpR op_eq (pe_ix ix_str (pv 1) (pe_ix ix_tup (pv 3) pe_int (fun _ _ => rfl)) (fun _ _ => rfl)) pe_str (nomark _)) pa_nil))) (fun _ _ => rfl))))) pss_nil)))
  (pss_one (ps_ret (pv 2)))))
-- names of _law_is_number: N_law_is_number
theorem sc_law_is_number : FnScope N_law_is_number ["value", "most"] (defScope s_law_is_number) := ⟨rfl, rfl, rfl, by decide +kernel, rfl, by decide +kernel, by decide +kernel⟩
theorem ok_law_is_number (T : Txt K mg) : Cal P w K mg base CX0 1 (He.ga K "_law_is_number") ["value", "most"] (sp_law_is_number K) := by
  obtain ⟨fd, F⟩ := T.f_law_is_number
  refine ⟨fd, ?_, F.bindsN fun _ _ _ _ _ _ us hl => match us, hl with | [_, _], _ => rfl, F.kp⟩
  refine F.ok sc_law_is_number (fun vs H Q E h => pu_len (fun ds r ⟨_, _, e, _⟩ => by rw [e]; rfl) h) (fun cdv A outer s H vs Q E hr h => ⟨(t_law_is_number K), PSs.nox ?_, pure_law_is_number h⟩)
  exact (pss_one (ps_ret (pe_and (pe_callB call_isi (by rfl) T.n_isinstance bt_isinstance (pa_cons (pv 0) (pa_cons (pe_bltn (v := .ty "int") (by rfl) T.n_int bt_int rfl) pa_nil))) (pe_and (pe_cmpR op_isntB (pv 0) pe_bl (nomark _)) (pe_and (pe_cmpR op_isntB (pv 0) pe_bl (nomark _)) (pe_one (pe_chain op_le op_le pe_int (pv 0) (pv 1))))))))
-- names of _law_is_step: N_law_is_step
theorem sc_law_is_step : FnScope N_law_is_step ["value"] (defScope s_law_is_step) := ⟨rfl, rfl, rfl, by decide +kernel, rfl, by decide +kernel, by decide +kernel⟩
theorem ok_law_is_step (T : Txt K mg) : Cal P w K mg base CX0 2 (He.ga K "_law_is_step") ["value"] (sp_law_is_step K) := by
  obtain ⟨fd, F⟩ := T.f_law_is_step
  obtain ⟨fd_law_is_number, G_law_is_number, b_law_is_number, k_law_is_number⟩ := (ok_law_is_number (P := P) (w := w) (base := base) T).ex
  refine ⟨fd, ?_, F.bindsN fun _ _ _ _ _ _ us hl => match us, hl with | [_], _ => rfl, F.kp⟩
  refine F.ok sc_law_is_step (fun vs H Q E h => pu_len (fun ds r ⟨_, e, _⟩ => by rw [e]; rfl) h) (fun cdv A outer s H vs Q E hr h => ⟨(t_law_is_step K), PSs.nox ?_, pure_law_is_step h⟩)
  have hu : (A.deeper (envOfC "_law_is_step" (defScope s_law_is_step) s.heap.objs.size (He.ga K "_law_is_step") cdv)).units + 1 < cLine := by have := hr.un; omega
  exact (pss_cons (ps_if (PW.pt (pw_or (pt_not (pt_val (pe_callB call_isi (by rfl) T.n_isinstance bt_isinstance (pa_cons (pv 0) (pa_cons (pe_bltn (v := .ty "tuple") (by rfl) T.n_tuple bt_tuple rfl) pa_nil))))) (pw_or (pt_cmpR op_notIn_seq (pe_callB call_lenA (by rfl) T.n_len bt_len (pa_cons (pv 0) pa_nil)) (pe_tup (pa_cons pe_int (pa_cons pe_int pa_nil))) (by rfl)) (pw_or1 (pt_not (pt_val (pe_callB call_isi (by rfl) T.n_isinstance bt_isinstance (pa_cons (pe_ix ix_tup (pv 0) pe_int (fun _ _ => rfl)) (pa_cons (pe_bltn (v := .ty "str") (by rfl) T.n_str bt_str rfl) pa_nil))))))))) (pss_one (ps_ret pe_bl)) pss_nil)
  (pss_cons (ps_if (pt_cmpR op_ne (pe_ix ix_tup (pv 0) pe_int (fun _ _ => rfl)) (pe_dget hu (pe_disp (pps_cons pe_int pe_str (pps_cons pe_int pe_str pps_nil)) (by rfl) (by rfl) (fun z => by cases z) (by decide)) (pe_callB call_lenA (by rfl) T.n_len bt_len (pa_cons (pv 0) pa_nil)) (fun _ _ => rfl)) (nomark _)) (pss_one (ps_ret pe_bl)) pss_nil)
  (pss_cons (ps_set (i := 1) sc_law_is_step.nd rfl (by first | exact Or.inl rfl | exact Or.inr rfl) (pe_ifExp (pt_cmpR op_eq (pe_callB call_lenA (by rfl) T.n_len bt_len (pa_cons (pv 0) pa_nil)) pe_int (nomark _)) (pe_lst (pa_cons pe_int (pa_cons pe_int pa_nil))) (pe_lst (pa_cons pe_int (pa_cons pe_int (pa_cons pe_int (pa_cons pe_int pa_nil)))))))
  (pss_one (ps_ret (pe_cmpR (op_eqD hr.units) (pe_lc (own := [("k", 2), ("most", 3)]) (g := (gTup K 2 (gCons (gName 2) (gCons (gName 3) gNil)))) (tt := (tNot (tB (tCall (sp_law_is_number K) [] E0 (tCons (tOp (rIxT K) (tVar 0) (tOp (rI0 fun i j => .int (i + j)) (tVar 2) (tC (.int 1)))) (tCons (tVar 3) tNil)))))) rfl sc_law_is_step.nd (pi_enum (by rfl) T.n_enumerate (pa_cons (pv 1) pa_nil)) (blkOk_by (N := N_law_is_step) (own := [("k", 2), ("most", 3)]) (by first | decide +kernel | kernel_rfl)) (fun _ _ _ _ _ => (pg_tup rfl (pgs_cons (pg_name (i := 2) sc_law_is_step.nd rfl (by first | exact Or.inl rfl | exact Or.inr rfl)) (pgs_cons (pg_name (i := 3) sc_law_is_step.nd rfl (by first | exact Or.inl rfl | exact Or.inr rfl)) pgs_nil)))) (fun _ _ _ _ _ => (pts_one (pt_not (pt_val (pe_call G_law_is_number (hr.mono (by decide)) (by rfl) T.g__law_is_number k_law_is_number b_law_is_number .nil pass0 (pa_cons (pe_ix ix_tup (pv 0) (pe_op op_add (pv 2) pe_int) (fun _ _ => rfl)) (pa_cons (pv 3) pa_nil))))))) (fun _ _ _ _ _ => (pv 2))) (pe_lst pa_nil) (nomark _)))))))
-- names of _law_is_program: N_law_is_program
theorem sc_law_is_program : FnScope N_law_is_program ["value"] (defScope s_law_is_program) := ⟨rfl, rfl, rfl, by decide +kernel, rfl, by decide +kernel, by decide +kernel⟩
theorem ok_law_is_program (T : Txt K mg) : Cal P w K mg base CX0 3 (He.ga K "_law_is_program") ["value"] (sp_law_is_program K) := by
  obtain ⟨fd, F⟩ := T.f_law_is_program
  obtain ⟨fd_law_is_step, G_law_is_step, b_law_is_step, k_law_is_step⟩ := (ok_law_is_step (P := P) (w := w) (base := base) T).ex
  refine ⟨fd, ?_, F.bindsN fun _ _ _ _ _ _ us hl => match us, hl with | [_], _ => rfl, F.kp⟩
  refine F.ok sc_law_is_program (fun vs H Q E h => pu_len (fun ds r ⟨_, e, _⟩ => by rw [e]; rfl) h) (fun cdv A outer s H vs Q E hr h => ⟨(t_law_is_program K), PSs.nox ?_, pure_law_is_program h⟩)
  exact (pss_cons (ps_if (PW.pt (pw_or (pt_not (pt_val (pe_callB call_isiT (by rfl) T.n_isinstance bt_isinstance (pa_cons (pv 0) (pa_cons (pe_tup (pa_cons (pe_bltn (v := .ty "list") (by rfl) T.n_list bt_list rfl) (pa_cons (pe_bltn (v := .ty "tuple") (by rfl) T.n_tuple bt_tuple rfl) pa_nil))) pa_nil))))) (pw_or1 (pt_cmpR op_gt (pe_callB call_lenA (by rfl) T.n_len bt_len (pa_cons (pv 0) pa_nil)) pe_int (nomark _))))) (pss_one (ps_ret pe_bl)) pss_nil)
  (pss_one (ps_ret (pe_cmpR (op_eqD hr.units) (pe_lc (own := [("step", 1)]) (g := (gName 1)) (tt := (tNot (tB (tCall (sp_law_is_step K) [] E0 (tCons (tVar 1) tNil))))) rfl sc_law_is_program.nd (pi_list (pv 0)) (blkOk_by (N := N_law_is_program) (own := [("step", 1)]) (by first | decide +kernel | kernel_rfl)) (fun _ _ _ _ _ => (pg_name (i := 1) sc_law_is_program.nd rfl (by first | exact Or.inl rfl | exact Or.inr rfl))) (fun _ _ _ _ _ => (pts_one (pt_not (pt_val (pe_call G_law_is_step (hr.mono (by decide)) (by rfl) T.g__law_is_step k_law_is_step b_law_is_step .nil pass0 (pa_cons (pv 1) pa_nil)))))) (fun _ _ _ _ _ => (pv 1))) (pe_lst pa_nil) (nomark _)))))
-- names of _law_wide: N_law_wide
theorem sc_law_wide : FnScope N_law_wide ["box", "holes", "many"] (defScope s_law_wide) := ⟨rfl, rfl, rfl, by decide +kernel, rfl, by decide +kernel, by decide +kernel⟩
theorem ok_law_wide (T : Txt K mg) : Cal P w K mg base CX0 2 (He.ga K "_law_wide") ["box", "holes", "many"] (sp_law_wide K) := by
  obtain ⟨fd, F⟩ := T.f_law_wide
  obtain ⟨fd_law_take, G_law_take, b_law_take, k_law_take⟩ := (ok_law_take (P := P) (w := w) (base := base) T).ex
  refine ⟨fd, ?_, F.bindsN fun _ _ _ _ _ _ us hl => match us, hl with | [_, _, _], _ => rfl, F.kp⟩
  refine F.ok sc_law_wide (fun vs H Q E h => by obtain ⟨_, h⟩ := h; exact bx_len (fun ds ⟨_, e, _⟩ => by rw [e]; rfl) h) (fun cdv A outer s H vs Q E hr h => ⟨(t_law_wide K), PSs.nox ?_, pure_law_wide h⟩)
  exact (pss_cons (ps_set (i := 3) sc_law_wide.nd rfl (by first | exact Or.inl rfl | exact Or.inr rfl) (pe_lc (own := [("k", 5)]) (g := (gName 5)) (tt := tYes) rfl sc_law_wide.nd (pi_range1 (by rfl) T.n_range (pa_cons (pv 2) pa_nil)) (blkOk_by (N := N_law_wide) (own := [("k", 5)]) (by first | decide +kernel | kernel_rfl)) (fun _ _ _ _ _ => (pg_name (i := 5) sc_law_wide.nd rfl (by first | exact Or.inl rfl | exact Or.inr rfl))) (fun _ _ _ _ _ => pts_nil) (fun _ _ _ _ _ => (pe_tup (pa_cons (pe_ix ix_list (pe_lst (pa_cons pe_str (pa_cons pe_str pa_nil))) (pe_call G_law_take (hr.mono (by decide)) (by rfl) T.g__law_take k_law_take b_law_take .nil pass0 (pa_cons (pv 0) (pa_cons pe_int pa_nil))) (fun _ _ => rfl)) (pa_cons (pe_ix ix_list (pv 1) (pe_call G_law_take (hr.mono (by decide)) (by rfl) T.g__law_take k_law_take b_law_take .nil pass0 (pa_cons (pv 0) (pa_cons (pe_callB call_lenA (by rfl) T.n_len bt_len (pa_cons (pv 1) pa_nil)) pa_nil))) (fun _ _ => rfl)) pa_nil))))))
  (pss_cons (ps_while PassesOwn.never (pt_cmpR op_gt (pe_callB call_lenA (by rfl) T.n_len bt_len (pa_cons (pv 3) pa_nil)) pe_int (nomark _)) (pss_cons (ps_setLc (i := 4) (own := [("k", 5)]) (g := (gName 5)) (tt := tYes) rfl sc_law_wide.nd rfl rfl (sw_true rfl rfl rfl (by first | rfl | decide +kernel | kernel_rfl)) (pi_range3 (by rfl) T.n_range (pa_cons pe_int (pa_cons (pe_op op_sub (pe_callB call_lenA (by rfl) T.n_len bt_len (pa_cons (pv 3) pa_nil)) pe_int) (pa_cons pe_int pa_nil)))) (blkOk_by (N := N_law_wide) (own := [("k", 5)]) (by first | decide +kernel | kernel_rfl)) (fun _ _ _ _ _ => (pg_name (i := 5) sc_law_wide.nd rfl (by first | exact Or.inl rfl | exact Or.inr rfl))) (fun _ _ _ _ _ => pts_nil) (fun _ _ _ _ _ => (pe_tup (pa_cons (pe_ix ix_list (pe_lst (pa_cons pe_str (pa_cons pe_str pa_nil))) (pe_call G_law_take (hr.mono (by decide)) (by rfl) T.g__law_take k_law_take b_law_take .nil pass0 (pa_cons (pv 0) (pa_cons pe_int pa_nil))) (fun _ _ => rfl)) (pa_cons (pe_ix ix_list (pv 3) (pv 5) (fun _ _ => rfl)) (pa_cons (pe_ix ix_list (pv 3) (pe_op op_add (pv 5) pe_int) (fun _ _ => rfl)) pa_nil))))))
  (pss_one (ps_set (i := 3) sc_law_wide.nd rfl (by first | exact Or.inl rfl | exact Or.inr rfl) (pe_op op_cat (pv 4) (pe_slice sl_list (pv 3) (po_some (pe_op op_sub (pe_callB call_lenA (by rfl) T.n_len bt_len (pa_cons (pv 3) pa_nil)) (pe_op op_mod (pe_callB call_lenA (by rfl) T.n_len bt_len (pa_cons (pv 3) pa_nil)) pe_int))) po_none))))))
  (pss_one (ps_ret (pe_ix ix_list (pv 3) pe_int (fun _ _ => rfl))))))
-- names of _law_deep: N_law_deep
theorem sc_law_deep : FnScope N_law_deep ["box", "holes"] (defScope s_law_deep) := ⟨rfl, rfl, rfl, by decide +kernel, rfl, by decide +kernel, by decide +kernel⟩
theorem ok_law_deep (T : Txt K mg) : Cal P w K mg base CX0 2 (He.ga K "_law_deep") ["box", "holes"] (sp_law_deep K) := by
  obtain ⟨fd, F⟩ := T.f_law_deep
  obtain ⟨fd_law_take, G_law_take, b_law_take, k_law_take⟩ := (ok_law_take (P := P) (w := w) (base := base) T).ex
  refine ⟨fd, ?_, F.bindsN fun _ _ _ _ _ _ us hl => match us, hl with | [_, _], _ => rfl, F.kp⟩
  refine F.ok sc_law_deep (fun vs H Q E h => by obtain ⟨_, h⟩ := h; exact bx_len (fun ds ⟨e, _⟩ => by rw [e]; rfl) h) (fun cdv A outer s H vs Q E hr h => ⟨(t_law_deep K), PSs.nox ?_, pure_law_deep h⟩)
  exact (pss_cons (ps_set (i := 2) sc_law_deep.nd rfl (by first | exact Or.inl rfl | exact Or.inr rfl) (pe_tup (pa_cons (pe_ix ix_list (pe_lst (pa_cons pe_str (pa_cons pe_str pa_nil))) (pe_call G_law_take (hr.mono (by decide)) (by rfl) T.g__law_take k_law_take b_law_take .nil pass0 (pa_cons (pv 0) (pa_cons pe_int pa_nil))) (fun _ _ => rfl)) (pa_cons (pe_ix ix_list (pv 1) pe_int (fun _ _ => rfl)) pa_nil))))
  (pss_cons (ps_for PassesOwn.never rfl (pi_range1 (by rfl) T.n_range (pa_cons pe_int pa_nil)) (pg_name (i := 3) sc_law_deep.nd rfl (by first | exact Or.inl rfl | exact Or.inr rfl)) (pss_cons (ps_set (i := 4) sc_law_deep.nd rfl (by first | exact Or.inl rfl | exact Or.inr rfl) (pe_tup (pa_cons (pe_ix ix_list (pe_lst (pa_cons pe_str (pa_cons pe_str pa_nil))) (pe_call G_law_take (hr.mono (by decide)) (by rfl) T.g__law_take k_law_take b_law_take .nil pass0 (pa_cons (pv 0) (pa_cons pe_int pa_nil))) (fun _ _ => rfl)) (pa_cons (pe_ix ix_list (pv 1) (pe_call G_law_take (hr.mono (by decide)) (by rfl) T.g__law_take k_law_take b_law_take .nil pass0 (pa_cons (pv 0) (pa_cons (pe_callB call_lenA (by rfl) T.n_len bt_len (pa_cons (pv 1) pa_nil)) pa_nil))) (fun _ _ => rfl)) pa_nil))))
  (pss_cons (ps_set (i := 5) sc_law_deep.nd rfl (by first | exact Or.inl rfl | exact Or.inr rfl) (pe_lst (pa_cons (pe_tup (pa_cons pe_str (pa_cons (pv 2) pa_nil))) (pa_cons (pe_tup (pa_cons pe_str (pa_cons (pv 2) (pa_cons (pv 4) pa_nil)))) (pa_cons (pe_tup (pa_cons pe_str (pa_cons (pv 4) (pa_cons (pv 2) pa_nil)))) pa_nil)))))
  (pss_one (ps_set (i := 2) sc_law_deep.nd rfl (by first | exact Or.inl rfl | exact Or.inr rfl) (pe_ix ix_list (pv 5) (pe_call G_law_take (hr.mono (by decide)) (by rfl) T.g__law_take k_law_take b_law_take .nil pass0 (pa_cons (pv 0) (pa_cons pe_int pa_nil))) (fun _ _ => rfl)))))))
  (pss_one (ps_ret (pv 2)))))
-- names of _law_changed: N_law_changed
theorem sc_law_changed : FnScope N_law_changed ["box", "request", "holes"] (defScope s_law_changed) := ⟨rfl, rfl, rfl, by decide +kernel, rfl, by decide +kernel, by decide +kernel⟩
theorem no_law_changed {vs : List V} {H : Hp} {Q : VK} {E : XK} (h : sp_law_changed K 0 vs H Q E) : False := by
  obtain ⟨_, _, _, _, _, _, _, _, _, _, _, _, _, _, _, _, ⟨_, h, _⟩, _⟩ := h
  exact Nat.not_lt_zero _ h
theorem ok_law_changedN (T : Txt K mg) : ∀ n : Nat, Cal P w K mg base CX0 (n + 2) (He.ga K "_law_changed") ["box", "request", "holes"] (sp_law_changed K n)
  | 0 => by
    obtain ⟨fd, F⟩ := T.f_law_changed
    exact ⟨fd, ⟨fun vs H Q E h => (no_law_changed h).elim, fun A outer s H args us vs Q E _ _ _ _ h => (no_law_changed h).elim⟩, F.bindsN fun _ _ _ _ _ _ us hl => match us, hl with | [_, _, _], _ => rfl, F.kp⟩
  | n + 1 => by
    obtain ⟨fd, F⟩ := T.f_law_changed
    obtain ⟨fd_law_changed, G_law_changed, b_law_changed, k_law_changed⟩ := (ok_law_changedN T n).ex
    obtain ⟨fd_law_take, G_law_take, b_law_take, k_law_take⟩ := (ok_law_take (P := P) (w := w) (base := base) T).ex
    refine ⟨fd, ?_, F.bindsN fun _ _ _ _ _ _ us hl => match us, hl with | [_, _, _], _ => rfl, F.kp⟩
    rw [show n + 1 + 2 = n + 2 + 1 by omega]
    refine F.ok sc_law_changed (fun vs H Q E h => by obtain ⟨_, h⟩ := h; exact bx_len (fun ds ⟨e, _⟩ => by rw [e]; rfl) h) (fun cdv A outer s H vs Q E hr h => ⟨t_law_changed K n, PSs.nox ?_, pure_law_changed h⟩)
    exact (pss_cons (ps_if (PW.pt (pw_and (pt_cmpR op_eq (pe_callB call_lenA (by rfl) T.n_len bt_len (pa_cons (pv 1) pa_nil)) pe_int (nomark _)) (pw_and1 (pt_not (pt_val (pe_callB call_isi (by rfl) T.n_isinstance bt_isinstance (pa_cons (pe_ix ix_tup (pv 1) pe_int (fun _ _ => rfl)) (pa_cons (pe_bltn (v := .ty "tuple") (by rfl) T.n_tuple bt_tuple rfl) pa_nil)))))))) (pss_one (ps_ret (pe_tup (pa_cons (pe_ix ix_list (pe_lst (pa_cons pe_str (pa_cons pe_str pa_nil))) (pe_call G_law_take (hr.mono (by omega)) (by rfl) T.g__law_take k_law_take b_law_take .nil pass0 (pa_cons (pv 0) (pa_cons pe_int pa_nil))) (fun _ _ => rfl)) (pa_cons (pe_ix ix_list (pv 2) (pe_call G_law_take (hr.mono (by omega)) (by rfl) T.g__law_take k_law_take b_law_take .nil pass0 (pa_cons (pv 0) (pa_cons (pe_callB call_lenA (by rfl) T.n_len bt_len (pa_cons (pv 2) pa_nil)) pa_nil))) (fun _ _ => rfl)) pa_nil))))) pss_nil)
  (pss_cons (ps_set (i := 3) sc_law_changed.nd rfl (by first | exact Or.inl rfl | exact Or.inr rfl) (pe_op op_add pe_int (pe_call G_law_take (hr.mono (by omega)) (by rfl) T.g__law_take k_law_take b_law_take .nil pass0 (pa_cons (pv 0) (pa_cons (pe_op op_sub (pe_callB call_lenA (by rfl) T.n_len bt_len (pa_cons (pv 1) pa_nil)) pe_int) pa_nil)))))
  (pss_one (ps_ret (pe_op op_catT (pe_op op_catT (pe_slice sl_tup (pv 1) po_none (po_some (pv 3))) (pe_tup (pa_cons (pe_call G_law_changed (hr.mono (by omega)) (by rfl) T.g__law_changed k_law_changed b_law_changed .nil pass0 (pa_cons (pv 0) (pa_cons (pe_ix ix_tup (pv 1) (pv 3) (fun _ _ => rfl)) (pa_cons (pv 2) pa_nil)))) pa_nil))) (pe_slice sl_tup (pv 1) (po_some (pe_op op_add (pv 3) pe_int)) po_none))))))
theorem ok_law_changed (T : Txt K mg) : Cal P w K mg base CX0 16 (He.ga K "_law_changed") ["box", "request", "holes"] (sp_law_changed K 14) := ok_law_changedN T 14
-- names of _law_first: N_law_first
theorem sc_law_first : FnScope N_law_first ["width", "wrong"] (defScope s_law_first) := ⟨rfl, rfl, rfl, by decide +kernel, rfl, by decide +kernel, by decide +kernel⟩
theorem ok_law_first (T : Txt K mg) : Cal P w K mg base CX0 1 (He.ga K "_law_first") ["width", "wrong"] (sp_law_first K) := by
  obtain ⟨fd, F⟩ := T.f_law_first
  refine ⟨fd, ?_, F.bindsN fun _ _ _ _ _ _ us hl => match us, hl with | [_, _], _ => rfl, F.kp⟩
  refine F.ok sc_law_first (fun vs H Q E h => pu_len (fun ds r ⟨_, _, e, _⟩ => by rw [e]; rfl) h) (fun cdv A outer s H vs Q E hr h => ⟨(t_law_first K), PSs.nox ?_, pure_law_first h⟩)
  exact (pss_one (ps_ret (pe_ifExp (pt_cmpR (op_eqD hr.units) (pv 1) (pe_lst pa_nil) (nomark _)) pe_non (pe_bm PySem.F.plainAttrs_str PySem.F.slot_str_join PySem.F.type_str_join mt_joinR pe_str (pa_cons (pe_lc (own := [("hole", 2)]) (g := (gName 2)) (tt := tYes) rfl sc_law_first.nd (pi_range1 (by rfl) T.n_range (pa_cons (pv 0) pa_nil)) (blkOk_by (N := N_law_first) (own := [("hole", 2)]) (by first | decide +kernel | kernel_rfl)) (fun _ _ _ _ _ => (pg_name (i := 2) sc_law_first.nd rfl (by first | exact Or.inl rfl | exact Or.inr rfl))) (fun _ _ _ _ _ => pts_nil) (fun _ _ _ _ _ => (pe_ix ix_str pe_str (pe_op op_and (pe_op op_shr (pe_ix ix_list (pv 1) pe_int (fun _ _ => rfl)) (pe_op op_sub (pe_op op_sub (pv 0) pe_int) (pv 2))) pe_int) (fun _ _ => rfl)))) pa_nil)))))
-- names of _law_rows: N_law_rows
theorem sc_law_rows : FnScope N_law_rows ["width"] (defScope s_law_rows) := ⟨rfl, rfl, rfl, by decide +kernel, rfl, by decide +kernel, by decide +kernel⟩
theorem ok_law_rows (T : Txt K mg) : Cal P w K mg base CX0 1 (He.ga K "_law_rows") ["width"] (sp_law_rows K) := by
  obtain ⟨fd, F⟩ := T.f_law_rows
  refine ⟨fd, ?_, F.bindsN fun _ _ _ _ _ _ us hl => match us, hl with | [_], _ => rfl, F.kp⟩
  refine F.ok sc_law_rows (fun vs H Q E h => pu_len (fun ds r ⟨_, e, _⟩ => by rw [e]; rfl) h) (fun cdv A outer s H vs Q E hr h => ⟨(t_law_rows K), PSs.nox ?_, pure_law_rows h⟩)
  exact (pss_one (ps_ret (pe_lc (own := [("number", 1)]) (g := (gName 1)) (tt := tYes) rfl sc_law_rows.nd (pi_range1 (by rfl) T.n_range (pa_cons (pe_op op_shl pe_int (pv 0)) pa_nil)) (blkOk_by (N := N_law_rows) (own := [("number", 1)]) (by first | decide +kernel | kernel_rfl)) (fun _ _ _ _ _ => (pg_name (i := 1) sc_law_rows.nd rfl (by first | exact Or.inl rfl | exact Or.inr rfl))) (fun _ _ _ _ _ => pts_nil) (fun _ _ _ _ _ => (pe_bm PySem.F.plainAttrs_str PySem.F.slot_str_join PySem.F.type_str_join mt_joinR pe_str (pa_cons (pe_lc (own := [("hole", 2)]) (g := (gName 2)) (tt := tYes) rfl sc_law_rows.nd (pi_range1 (by rfl) T.n_range (pa_cons (pv 0) pa_nil)) (blkOk_by (N := N_law_rows) (own := [("hole", 2)]) (by first | decide +kernel | kernel_rfl)) (fun _ _ _ _ _ => (pg_name (i := 2) sc_law_rows.nd rfl (by first | exact Or.inl rfl | exact Or.inr rfl))) (fun _ _ _ _ _ => pts_nil) (fun _ _ _ _ _ => (pe_ix ix_str pe_str (pe_op op_and (pe_op op_shr (pv 1) (pe_op op_sub (pe_op op_sub (pv 0) pe_int) (pv 2))) pe_int) (fun _ _ => rfl)))) pa_nil))))))
-- names of law: N_law
theorem sc_law : FnScope N_law ["script"] (defScope s_law) := ⟨rfl, rfl, rfl, by decide +kernel, rfl, by decide +kernel, by decide +kernel⟩
theorem ok_law (T : Txt K mg) {fd : FuncData} (F : FunD K "law" "law" (defArgs s_law) (defBody s_law) (defScope s_law) [] [] (He.ga K "law") fd) : FnOkG P w K mg base CX0 20 (He.ga K "law") fd ["script"] (sp_law K) := by
  obtain ⟨fd_law_take, G_law_take, b_law_take, k_law_take⟩ := (ok_law_take (P := P) (w := w) (base := base) T).ex
  obtain ⟨fd_difference, G_difference, b_difference, k_difference⟩ := (ok_difference (P := P) (w := w) (base := base) T).ex
  obtain ⟨fd_law_cell, G_law_cell, b_law_cell, k_law_cell⟩ := (ok_law_cell (P := P) (w := w) (base := base) T).ex
  obtain ⟨fd_Pack_Dinit, G_Pack_Dinit, b_Pack_Dinit, k_Pack_Dinit⟩ := (ok_Pack_Dinit (P := P) (w := w) (base := base) T).ex
  obtain ⟨fd_law_deep, G_law_deep, b_law_deep, k_law_deep⟩ := (ok_law_deep (P := P) (w := w) (base := base) T).ex
  obtain ⟨fd_law_is_program, G_law_is_program, b_law_is_program, k_law_is_program⟩ := (ok_law_is_program (P := P) (w := w) (base := base) T).ex
  obtain ⟨fd_law_box, G_law_box, b_law_box, k_law_box⟩ := (ok_law_box (P := P) (w := w) (base := base) T).ex
  obtain ⟨fd_law_first, G_law_first, b_law_first, k_law_first⟩ := (ok_law_first (P := P) (w := w) (base := base) T).ex
  obtain ⟨fd_law_wide, G_law_wide, b_law_wide, k_law_wide⟩ := (ok_law_wide (P := P) (w := w) (base := base) T).ex
  obtain ⟨fd_law_fits, G_law_fits, b_law_fits, k_law_fits⟩ := (ok_law_fits (P := P) (w := w) (base := base) T).ex
  obtain ⟨fd_fits, G_fits, b_fits, k_fits⟩ := (ok_fits (P := P) (w := w) (base := base) T).ex
  obtain ⟨fd_law_landing, G_law_landing, b_law_landing, k_law_landing⟩ := (ok_law_landing (P := P) (w := w) (base := base) T).ex
  obtain ⟨fd_picks, G_picks, b_picks, k_picks⟩ := (ok_picks (P := P) (w := w) (base := base) T).ex
  obtain ⟨fd_law_even, G_law_even, b_law_even, k_law_even⟩ := (ok_law_even (P := P) (w := w) (base := base) T).ex
  obtain ⟨fd_law_rows, G_law_rows, b_law_rows, k_law_rows⟩ := (ok_law_rows (P := P) (w := w) (base := base) T).ex
  obtain ⟨fd_law_names, G_law_names, b_law_names, k_law_names⟩ := (ok_law_names (P := P) (w := w) (base := base) T).ex
  obtain ⟨fd_law_holes, G_law_holes, b_law_holes, k_law_holes⟩ := (ok_law_holes (P := P) (w := w) (base := base) T).ex
  obtain ⟨fd_Pack_cards, G_Pack_cards, b_Pack_cards, k_Pack_cards⟩ := (ok_Pack_cards (P := P) (w := w) (base := base) T).ex
  obtain ⟨fd_program_for, G_program_for, b_program_for, k_program_for⟩ := (ok_program_for (P := P) (w := w) (base := base) T).ex
  obtain ⟨fd_law_step, G_law_step, b_law_step, k_law_step⟩ := (ok_law_step (P := P) (w := w) (base := base) T).ex
  obtain ⟨fd_fault, G_fault, b_fault, k_fault⟩ := (ok_fault (P := P) (w := w) (base := base) T).ex
  obtain ⟨fd_law_changed, G_law_changed, b_law_changed, k_law_changed⟩ := (ok_law_changed (P := P) (w := w) (base := base) T).ex
  refine R.FunD.okG F sc_law (fun vs H Q E h => pu_len (fun ds r ⟨_, e, _⟩ => by rw [e]; rfl) h) (fun cdv A outer s H vs Q E hgd hr h => ⟨(t_law K 122949869 111), PSs.nox ?_, pure_law T.pk h⟩)
  exact (pss_cons (ps_for PassesOwn.never rfl (pi_range1 (by rfl) T.n_range (pa_cons (pe_callB (cr_max2 rfl) (by rfl) T.n_max bt_max (pa_cons pe_int (pa_cons (pe_callB (cr_min2 rfl) (by rfl) T.n_min bt_min (pa_cons pe_int (pa_cons (pe_callB call_lenA (by rfl) T.n_len bt_len (pa_cons (pv 0) pa_nil)) pa_nil))) pa_nil))) pa_nil)) (pg_name (i := 1) sc_law.nd rfl (by first | exact Or.inl rfl | exact Or.inr rfl)) (pss_cons (ps_set (i := 2) sc_law.nd rfl (by first | exact Or.inl rfl | exact Or.inr rfl) (pe_call G_law_box (hr.mono (by decide)) (by rfl) T.g__law_box k_law_box b_law_box .nil pass0 (pa_cons (pe_call G_law_cell (hr.mono (by decide)) (by rfl) T.g__law_cell k_law_cell b_law_cell .nil pass0 (pa_cons (pv 0) (pa_cons (pv 1) pa_nil))) pa_nil)))
  (pss_cons (ps_set (i := 3) sc_law.nd rfl (by first | exact Or.inl rfl | exact Or.inr rfl) (pe_op op_add pe_int (pe_call G_law_take (hr.mono (by decide)) (by rfl) T.g__law_take k_law_take b_law_take .nil pass0 (pa_cons (pv 2) (pa_cons pe_int pa_nil)))))
  (pss_cons (ps_asg (pe_tup (pa_cons (pe_lc (own := [("at", 7)]) (g := (gName 7)) (tt := tYes) rfl sc_law.nd (pi_range1 (by rfl) T.n_range (pa_cons pe_int pa_nil)) (blkOk_by (N := N_law) (own := [("at", 7)]) (by first | decide +kernel | kernel_rfl)) (fun _ _ _ _ _ => (pg_name (i := 7) sc_law.nd rfl (by first | exact Or.inl rfl | exact Or.inr rfl))) (fun _ _ _ _ _ => pts_nil) (fun _ _ _ _ _ => (pe_call G_law_take (hr.mono (by decide)) (by rfl) T.g__law_take k_law_take b_law_take .nil pass0 (pa_cons (pv 2) (pa_cons (pv 3) pa_nil))))) (pa_cons (pe_call G_law_rows (hr.mono (by decide)) (by rfl) T.g__law_rows k_law_rows b_law_rows .nil pass0 (pa_cons (pv 3) pa_nil)) pa_nil))) (pg_tup rfl (pgs_cons (pg_name (i := 10) sc_law.nd rfl (by first | exact Or.inl rfl | exact Or.inr rfl)) (pgs_cons (pg_name (i := 11) sc_law.nd rfl (by first | exact Or.inl rfl | exact Or.inr rfl)) pgs_nil))))
  (pss_cons (ps_asg (pe_tup (pa_cons (pe_call G_law_wide (hr.mono (by decide)) (by rfl) T.g__law_wide k_law_wide b_law_wide .nil pass0 (pa_cons (pv 2) (pa_cons (pv 10) (pa_cons (pe_op op_add pe_int (pe_call G_law_take (hr.mono (by decide)) (by rfl) T.g__law_take k_law_take b_law_take .nil pass0 (pa_cons (pv 2) (pa_cons pe_int pa_nil)))) pa_nil)))) (pa_cons (pe_call G_law_deep (hr.mono (by decide)) (by rfl) T.g__law_deep k_law_deep b_law_deep .nil pass0 (pa_cons (pv 2) (pa_cons (pv 10) pa_nil))) pa_nil))) (pg_tup rfl (pgs_cons (pg_name (i := 12) sc_law.nd rfl (by first | exact Or.inl rfl | exact Or.inr rfl)) (pgs_cons (pg_name (i := 13) sc_law.nd rfl (by first | exact Or.inl rfl | exact Or.inr rfl)) pgs_nil))))
  (pss_cons (ps_setLc (i := 4) (own := [("name", 16)]) (g := (gName 16)) (tt := tYes) rfl sc_law.nd rfl rfl (sw_true rfl rfl rfl (by first | rfl | decide +kernel | kernel_rfl)) (pi_list (pe_call G_law_names (hr.mono (by decide)) (by rfl) T.g__law_names k_law_names b_law_names .nil pass0 (pa_cons (pv 2) (pa_cons pe_int pa_nil)))) (blkOk_by (N := N_law) (own := [("name", 16)]) (by first | decide +kernel | kernel_rfl)) (fun _ _ _ _ _ => (pg_name (i := 16) sc_law.nd rfl (by first | exact Or.inl rfl | exact Or.inr rfl))) (fun _ _ _ _ _ => pts_nil) (fun _ _ _ _ _ => (pe_tup (pa_cons (pv 16) (pa_cons (pe_ix ix_list (pv 11) (pe_call G_law_take (hr.mono (by decide)) (by rfl) T.g__law_take k_law_take b_law_take .nil pass0 (pa_cons (pv 2) (pa_cons (pe_callB call_lenA (by rfl) T.n_len bt_len (pa_cons (pv 11) pa_nil)) pa_nil))) (fun _ _ => rfl)) pa_nil)))))
  (pss_cons (ps_for PassesOwn.never rfl (pi_list (pe_lst (pa_cons (pv 12) (pa_cons (pv 13) pa_nil)))) (pg_name (i := 5) sc_law.nd rfl (by first | exact Or.inl rfl | exact Or.inr rfl)) (pss_cons (ps_set (i := 14) sc_law.nd rfl (by first | exact Or.inl rfl | exact Or.inr rfl) (pe_lc (own := [("row", 17)]) (g := (gName 17)) (tt := (tB (tCall (sp_law_fits K 14) [] E0 (tCons (tVar 5) (tCons (tVar 17) tNil))))) rfl sc_law.nd (pi_list (pv 11)) (blkOk_by (N := N_law) (own := [("row", 17)]) (by first | decide +kernel | kernel_rfl)) (fun _ _ _ _ _ => (pg_name (i := 17) sc_law.nd rfl (by first | exact Or.inl rfl | exact Or.inr rfl))) (fun _ _ _ _ _ => (pts_one (pt_val (pe_call G_law_fits (hr.mono (by decide)) (by rfl) T.g__law_fits k_law_fits b_law_fits .nil pass0 (pa_cons (pv 5) (pa_cons (pv 17) pa_nil)))))) (fun _ _ _ _ _ => (pv 17))))
  (pss_cons (ps_if (pt_not (pt_val (pe_callG G_law_even hgd (hr.mono (by decide)) (by rfl) T.g__law_even k_law_even b_law_even pass0 (pa_cons (pe_lc (own := [("row", 17)]) (g := (gName 17)) (tt := tYes) rfl sc_law.nd (pi_list (pv 11)) (blkOk_by (N := N_law) (own := [("row", 17)]) (by first | decide +kernel | kernel_rfl)) (fun _ _ _ _ _ => (pg_name (i := 17) sc_law.nd rfl (by first | exact Or.inl rfl | exact Or.inr rfl))) (fun _ _ _ _ _ => pts_nil) (fun _ _ _ _ _ => (pe_call G_fits (hr.mono (by decide)) (by rfl) T.g_fits k_fits b_fits .nil pass0 (pa_cons (pv 5) (pa_cons (pv 17) pa_nil))))) (pa_cons (pe_lc (own := [("row", 17)]) (g := (gName 17)) (tt := tYes) rfl sc_law.nd (pi_list (pv 11)) (blkOk_by (N := N_law) (own := [("row", 17)]) (by first | decide +kernel | kernel_rfl)) (fun _ _ _ _ _ => (pg_name (i := 17) sc_law.nd rfl (by first | exact Or.inl rfl | exact Or.inr rfl))) (fun _ _ _ _ _ => pts_nil) (fun _ _ _ _ _ => (pe_cmpR op_in_seq (pv 17) (pv 14) (by rfl)))) pa_nil))))) (pss_one (ps_ret pe_bl)) pss_nil)
  (pss_cons (ps_if (pt_not (pt_val (pe_callG G_law_even hgd (hr.mono (by decide)) (by rfl) T.g__law_even k_law_even b_law_even pass0 (pa_cons (pe_meth0 (pe_call G_picks (hr.mono (by decide)) (by rfl) T.g_picks k_picks b_picks .nil pass0 (pa_cons (pv 5) (pa_cons (pe_make T.mk_Pack G_Pack_Dinit (hr.mono (by decide)) (by rfl) T.g_Pack b_Pack_Dinit .nil pass0 (pa_cons (pe_callTy call_listOf (by rfl) T.n_list bt_list (pa_cons (pv 4) pa_nil)) pa_nil)) pa_nil))) T.cl_Pack T.m_Pack_cards G_Pack_cards (hr.mono (by decide)) b_Pack_cards .nil pass0) (pa_cons (pe_lc (own := [("card", 21)]) (g := (gName 21)) (tt := (tTest (tOp (rIn K false) (tOp (rIxT K) (tVar 21) (tC (.int 1))) (tVar 14)))) rfl sc_law.nd (pi_list (pv 4)) (blkOk_by (N := N_law) (own := [("card", 21)]) (by first | decide +kernel | kernel_rfl)) (fun _ _ _ _ _ => (pg_name (i := 21) sc_law.nd rfl (by first | exact Or.inl rfl | exact Or.inr rfl))) (fun _ _ _ _ _ => (pts_one (pt_cmpR op_in_seq (pe_ix ix_tup (pv 21) pe_int (fun _ _ => rfl)) (pv 14) (by rfl)))) (fun _ _ _ _ _ => (pv 21))) pa_nil))))) (pss_one (ps_ret pe_bl)) pss_nil)
  (pss_cons (ps_set (i := 15) sc_law.nd rfl (by first | exact Or.inl rfl | exact Or.inr rfl) (pe_call G_law_changed (hr.mono (by decide)) (by rfl) T.g__law_changed k_law_changed b_law_changed .nil pass0 (pa_cons (pv 2) (pa_cons (pv 5) (pa_cons (pv 10) pa_nil)))))
  (pss_cons (ps_setLc (i := 9) (own := [("number", 20), ("row", 17)]) (g := (gTup K 2 (gCons (gName 20) (gCons (gName 17) gNil)))) (tt := (tTest (tOp rNe (tOp (rIn K false) (tVar 17) (tVar 14)) (tCall (sp_law_fits K 14) [] E0 (tCons (tVar 15) (tCons (tVar 17) tNil)))))) rfl sc_law.nd rfl rfl (sw_true rfl rfl rfl (by first | rfl | decide +kernel | kernel_rfl)) (pi_enum (by rfl) T.n_enumerate (pa_cons (pv 11) pa_nil)) (blkOk_by (N := N_law) (own := [("number", 20), ("row", 17)]) (by first | decide +kernel | kernel_rfl)) (fun _ _ _ _ _ => (pg_tup rfl (pgs_cons (pg_name (i := 20) sc_law.nd rfl (by first | exact Or.inl rfl | exact Or.inr rfl)) (pgs_cons (pg_name (i := 17) sc_law.nd rfl (by first | exact Or.inl rfl | exact Or.inr rfl)) pgs_nil)))) (fun _ _ _ _ _ => (pts_one (pt_cmpR op_ne (pe_cmpR op_in_seq (pv 17) (pv 14) (by rfl)) (pe_call G_law_fits (hr.mono (by decide)) (by rfl) T.g__law_fits k_law_fits b_law_fits .nil pass0 (pa_cons (pv 15) (pa_cons (pv 17) pa_nil))) (nomark _)))) (fun _ _ _ _ _ => (pv 20)))
  (pss_one (ps_if (pt_not (pt_val (pe_callG G_law_even hgd (hr.mono (by decide)) (by rfl) T.g__law_even k_law_even b_law_even pass0 (pa_cons (pe_call G_difference (hr.mono (by decide)) (by rfl) T.g_difference k_difference b_difference .nil pass0 (pa_cons (pv 5) (pa_cons (pv 15) (pa_cons (pv 3) pa_nil)))) (pa_cons (pe_call G_law_first (hr.mono (by decide)) (by rfl) T.g__law_first k_law_first b_law_first .nil pass0 (pa_cons (pv 3) (pa_cons (pv 9) pa_nil))) pa_nil))))) (pss_one (ps_ret pe_bl)) pss_nil))))))))
  (pss_cons (ps_set (i := 6) sc_law.nd rfl (by first | exact Or.inl rfl | exact Or.inr rfl) (pe_call G_program_for (hr.mono (by decide)) (by rfl) T.g_program_for k_program_for b_program_for .nil pass0 (pa_cons (pv 12) pa_nil)))
  (pss_cons (ps_if (PW.pt (pw_or (pt_not (pt_val (pe_callB call_isi (by rfl) T.n_isinstance bt_isinstance (pa_cons (pv 6) (pa_cons (pe_bltn (v := .ty "list") (by rfl) T.n_list bt_list rfl) pa_nil))))) (pw_or (pt_not (pt_val (pe_call G_law_is_program (hr.mono (by decide)) (by rfl) T.g__law_is_program k_law_is_program b_law_is_program .nil pass0 (pa_cons (pv 6) pa_nil)))) (pw_or1 (pt_cmpR op_gt (pe_callB call_lenA (by rfl) T.n_len bt_len (pa_cons (pv 6) pa_nil)) (pe_callB call_lenA (by rfl) T.n_len bt_len (pa_cons (pe_call G_law_holes (hr.mono (by decide)) (by rfl) T.g__law_holes k_law_holes b_law_holes .nil pass0 (pa_cons (pv 12) pa_nil)) pa_nil)) (nomark _)))))) (pss_one (ps_ret pe_bl)) pss_nil)
  (pss_cons (ps_if (pt_cmpR (op_neD hr.units) (pe_lc (own := [("row", 17)]) (g := (gName 17)) (tt := (tTest (tOp rNe (tCall (sp_law_landing K) [] E0 (tCons (tVar 6) (tCons (tVar 17) tNil))) (tOp (rIxL K) (tLst (tCons (tC (.int 2)) (tCons (tC (.int 1)) tNil))) (tCB rInt1 (tCons (tCall (sp_law_fits K 14) [] E0 (tCons (tVar 12) (tCons (tVar 17) tNil))) tNil)))))) rfl sc_law.nd (pi_list (pv 11)) (blkOk_by (N := N_law) (own := [("row", 17)]) (by first | decide +kernel | kernel_rfl)) (fun _ _ _ _ _ => (pg_name (i := 17) sc_law.nd rfl (by first | exact Or.inl rfl | exact Or.inr rfl))) (fun _ _ _ _ _ => (pts_one (pt_cmpR op_ne (pe_call G_law_landing (hr.mono (by decide)) (by rfl) T.g__law_landing k_law_landing b_law_landing .nil pass0 (pa_cons (pv 6) (pa_cons (pv 17) pa_nil))) (pe_ix ix_list (pe_lst (pa_cons pe_int (pa_cons pe_int pa_nil))) (pe_callTy call_intR (by rfl) T.n_int bt_int (pa_cons (pe_call G_law_fits (hr.mono (by decide)) (by rfl) T.g__law_fits k_law_fits b_law_fits .nil pass0 (pa_cons (pv 12) (pa_cons (pv 17) pa_nil))) pa_nil)) (fun _ _ => rfl)) (nomark _)))) (fun _ _ _ _ _ => (pv 17))) (pe_lst pa_nil) (nomark _)) (pss_one (ps_ret pe_bl)) pss_nil)
  (pss_cons (ps_set (i := 7) sc_law.nd rfl (by first | exact Or.inl rfl | exact Or.inr rfl) (pe_call G_law_take (hr.mono (by decide)) (by rfl) T.g__law_take k_law_take b_law_take .nil pass0 (pa_cons (pv 2) (pa_cons (pe_callB call_lenA (by rfl) T.n_len bt_len (pa_cons (pv 6) pa_nil)) pa_nil))))
  (pss_cons (ps_set (i := 8) sc_law.nd rfl (by first | exact Or.inl rfl | exact Or.inr rfl) (pe_lc (own := [("place", 18), ("step", 19)]) (g := (gTup K 2 (gCons (gName 18) (gCons (gName 19) gNil)))) (tt := tYes) rfl sc_law.nd (pi_enum (by rfl) T.n_enumerate (pa_cons (pv 6) pa_nil)) (blkOk_by (N := N_law) (own := [("place", 18), ("step", 19)]) (by first | decide +kernel | kernel_rfl)) (fun _ _ _ _ _ => (pg_tup rfl (pgs_cons (pg_name (i := 18) sc_law.nd rfl (by first | exact Or.inl rfl | exact Or.inr rfl)) (pgs_cons (pg_name (i := 19) sc_law.nd rfl (by first | exact Or.inl rfl | exact Or.inr rfl)) pgs_nil)))) (fun _ _ _ _ _ => pts_nil) (fun _ _ _ _ _ => (pe_ifExp (pt_cmpR op_eq (pv 18) (pv 7) (nomark _)) (pe_call G_law_step (hr.mono (by decide)) (by rfl) T.g__law_step k_law_step b_law_step .nil pass0 (pa_cons (pv 2) (pa_cons (pv 10) pa_nil))) (pv 19)))))
  (pss_cons (ps_setLc (i := 9) (own := [("number", 20), ("row", 17)]) (g := (gTup K 2 (gCons (gName 20) (gCons (gName 17) gNil)))) (tt := (tTest (tOp rNe (tOp rEq (tCall (sp_law_landing K) [] E0 (tCons (tVar 8) (tCons (tVar 17) tNil))) (tC (.int 1))) (tCall (sp_law_fits K 14) [] E0 (tCons (tVar 12) (tCons (tVar 17) tNil)))))) rfl sc_law.nd rfl rfl (sw_true rfl rfl rfl (by first | rfl | decide +kernel | kernel_rfl)) (pi_enum (by rfl) T.n_enumerate (pa_cons (pv 11) pa_nil)) (blkOk_by (N := N_law) (own := [("number", 20), ("row", 17)]) (by first | decide +kernel | kernel_rfl)) (fun _ _ _ _ _ => (pg_tup rfl (pgs_cons (pg_name (i := 20) sc_law.nd rfl (by first | exact Or.inl rfl | exact Or.inr rfl)) (pgs_cons (pg_name (i := 17) sc_law.nd rfl (by first | exact Or.inl rfl | exact Or.inr rfl)) pgs_nil)))) (fun _ _ _ _ _ => (pts_one (pt_cmpR op_ne (pe_cmpR op_eq (pe_call G_law_landing (hr.mono (by decide)) (by rfl) T.g__law_landing k_law_landing b_law_landing .nil pass0 (pa_cons (pv 8) (pa_cons (pv 17) pa_nil))) pe_int (nomark _)) (pe_call G_law_fits (hr.mono (by decide)) (by rfl) T.g__law_fits k_law_fits b_law_fits .nil pass0 (pa_cons (pv 12) (pa_cons (pv 17) pa_nil))) (nomark _)))) (fun _ _ _ _ _ => (pv 20)))
  (pss_one (ps_if (pt_not (pt_val (pe_callG G_law_even hgd (hr.mono (by decide)) (by rfl) T.g__law_even k_law_even b_law_even pass0 (pa_cons (pe_lst (pa_cons (pe_call G_fault (hr.mono (by decide)) (by rfl) T.g_fault k_fault b_fault .nil pass0 (pa_cons (pv 6) (pa_cons (pv 12) (pa_cons (pv 3) pa_nil)))) (pa_cons (pe_call G_fault (hr.mono (by decide)) (by rfl) T.g_fault k_fault b_fault .nil pass0 (pa_cons (pv 8) (pa_cons (pv 12) (pa_cons (pv 3) pa_nil)))) pa_nil))) (pa_cons (pe_lst (pa_cons pe_non (pa_cons (pe_call G_law_first (hr.mono (by decide)) (by rfl) T.g__law_first k_law_first b_law_first .nil pass0 (pa_cons (pv 3) (pa_cons (pv 9) pa_nil))) pa_nil))) pa_nil))))) (pss_one (ps_ret pe_bl)) pss_nil)))))))))))))))
  (pss_one (ps_ret pe_bl)))
end
end W46
set_option maxHeartbeats 0
namespace W46
open PySem PySem.Spec PyProof.Rows L2 R
def d_is_integer : He.DefD := ⟨("is_integer", none), "is_integer", "is_integer", defArgs s_is_integer, defBody s_is_integer, defScope s_is_integer, [], []⟩
def d_is_name : He.DefD := ⟨("is_name", none), "is_name", "is_name", defArgs s_is_name, defBody s_is_name, defScope s_is_name, [], []⟩
def d_is_list : He.DefD := ⟨("is_list", none), "is_list", "is_list", defArgs s_is_list, defBody s_is_list, defScope s_is_list, [], []⟩
def d_is_row : He.DefD := ⟨("is_row", none), "is_row", "is_row", defArgs s_is_row, defBody s_is_row, defScope s_is_row, [], []⟩
def d_need_row : He.DefD := ⟨("need_row", none), "need_row", "need_row", defArgs s_need_row, defBody s_need_row, defScope s_need_row, [], []⟩
def d_need_width : He.DefD := ⟨("need_width", none), "need_width", "need_width", defArgs s_need_width, defBody s_need_width, defScope s_need_width, [], []⟩
def d_is_open : He.DefD := ⟨("is_open", none), "is_open", "is_open", defArgs s_is_open, defBody s_is_open, defScope s_is_open, [], []⟩
def d_row_of : He.DefD := ⟨("row_of", none), "row_of", "row_of", defArgs s_row_of, defBody s_row_of, defScope s_row_of, [], []⟩
def d_row_in : He.DefD := ⟨("row_in", none), "row_in", "row_in", defArgs s_row_in, defBody s_row_in, defScope s_row_in, [], []⟩
def d_is_card : He.DefD := ⟨("is_card", none), "is_card", "is_card", defArgs s_is_card, defBody s_is_card, defScope s_is_card, [], []⟩
def d_Pack_Dinit : He.DefD := ⟨("Pack", some "__init__"), "__init__", "Pack.__init__", defArgs s_Pack_Dinit, defBody s_Pack_Dinit, defScope s_Pack_Dinit, [], []⟩
def d_Pack_Dlen : He.DefD := ⟨("Pack", some "__len__"), "__len__", "Pack.__len__", defArgs s_Pack_Dlen, defBody s_Pack_Dlen, defScope s_Pack_Dlen, [], []⟩
def d_Pack_cards : He.DefD := ⟨("Pack", some "cards"), "cards", "Pack.cards", defArgs s_Pack_cards, defBody s_Pack_cards, defScope s_Pack_cards, [], []⟩
def d_Pack_width : He.DefD := ⟨("Pack", some "width"), "width", "Pack.width", defArgs s_Pack_width, defBody s_Pack_width, defScope s_Pack_width, [], []⟩
def d_need_pack : He.DefD := ⟨("need_pack", none), "need_pack", "need_pack", defArgs s_need_pack, defBody s_need_pack, defScope s_need_pack, [], []⟩
def d_parts_of : He.DefD := ⟨("parts_of", none), "parts_of", "parts_of", defArgs s_parts_of, defBody s_parts_of, defScope s_parts_of, [], []⟩
def d_size_in : He.DefD := ⟨("size_in", none), "size_in", "size_in", defArgs s_size_in, defBody s_size_in, defScope s_size_in, [], []⟩
def d_is_request : He.DefD := ⟨("is_request", none), "is_request", "is_request", defArgs s_is_request, defBody s_is_request, defScope s_is_request, [], []⟩
def d_need_request : He.DefD := ⟨("need_request", none), "need_request", "need_request", defArgs s_need_request, defBody s_need_request, defScope s_need_request, [], []⟩
def d_holes_in : He.DefD := ⟨("holes_in", none), "holes_in", "holes_in", defArgs s_holes_in, defBody s_holes_in, defScope s_holes_in, [], []⟩
def d_need_holes : He.DefD := ⟨("need_holes", none), "need_holes", "need_holes", defArgs s_need_holes, defBody s_need_holes, defScope s_need_holes, [], []⟩
def d_holds : He.DefD := ⟨("holds", none), "holds", "holds", defArgs s_holds, defBody s_holds, defScope s_holds, [], []⟩
def d_fits : He.DefD := ⟨("fits", none), "fits", "fits", defArgs s_fits, defBody s_fits, defScope s_fits, [], []⟩
def d_picks : He.DefD := ⟨("picks", none), "picks", "picks", defArgs s_picks, defBody s_picks, defScope s_picks, [], []⟩
def d_difference : He.DefD := ⟨("difference", none), "difference", "difference", defArgs s_difference, defBody s_difference, defScope s_difference, [], []⟩
def d_is_tray : He.DefD := ⟨("is_tray", none), "is_tray", "is_tray", defArgs s_is_tray, defBody s_is_tray, defScope s_is_tray, [], []⟩
def d_is_step : He.DefD := ⟨("is_step", none), "is_step", "is_step", defArgs s_is_step, defBody s_is_step, defScope s_is_step, [], []⟩
def d_is_program : He.DefD := ⟨("is_program", none), "is_program", "is_program", defArgs s_is_program, defBody s_is_program, defScope s_is_program, [], []⟩
def d_need_program : He.DefD := ⟨("need_program", none), "need_program", "need_program", defArgs s_need_program, defBody s_need_program, defScope s_need_program, [], []⟩
def d_needled : He.DefD := ⟨("needled", none), "needled", "needled", defArgs s_needled, defBody s_needled, defScope s_needled, [], []⟩
def d_landing : He.DefD := ⟨("landing", none), "landing", "landing", defArgs s_landing, defBody s_landing, defScope s_landing, [], []⟩
def d_fault : He.DefD := ⟨("fault", none), "fault", "fault", defArgs s_fault, defBody s_fault, defScope s_fault, [], []⟩
def d_nested : He.DefD := ⟨("nested", none), "nested", "nested", defArgs s_nested, defBody s_nested, defScope s_nested, [], []⟩
def d_steps_for : He.DefD := ⟨("steps_for", none), "steps_for", "steps_for", defArgs s_steps_for, defBody s_steps_for, defScope s_steps_for, [], []⟩
def d_program_for : He.DefD := ⟨("program_for", none), "program_for", "program_for", defArgs s_program_for, defBody s_program_for, defScope s_program_for, [], []⟩
def d_law_cell : He.DefD := ⟨("_law_cell", none), "_law_cell", "_law_cell", defArgs s_law_cell, defBody s_law_cell, defScope s_law_cell, [], []⟩
def d_law_box : He.DefD := ⟨("_law_box", none), "_law_box", "_law_box", defArgs s_law_box, defBody s_law_box, defScope s_law_box, [], []⟩
def d_law_take : He.DefD := ⟨("_law_take", none), "_law_take", "_law_take", defArgs s_law_take, defBody s_law_take, defScope s_law_take, [], []⟩
def d_law_even : He.DefD := ⟨("_law_even", none), "_law_even", "_law_even", defArgs s_law_even, defBody s_law_even, defScope s_law_even, [], []⟩
def d_law_names : He.DefD := ⟨("_law_names", none), "_law_names", "_law_names", defArgs s_law_names, defBody s_law_names, defScope s_law_names, [], []⟩
def d_law_parts : He.DefD := ⟨("_law_parts", none), "_law_parts", "_law_parts", defArgs s_law_parts, defBody s_law_parts, defScope s_law_parts, [], []⟩
def d_law_fits : He.DefD := ⟨("_law_fits", none), "_law_fits", "_law_fits", defArgs s_law_fits, defBody s_law_fits, defScope s_law_fits, [], []⟩
def d_law_holes : He.DefD := ⟨("_law_holes", none), "_law_holes", "_law_holes", defArgs s_law_holes, defBody s_law_holes, defScope s_law_holes, [], []⟩
def d_law_step : He.DefD := ⟨("_law_step", none), "_law_step", "_law_step", defArgs s_law_step, defBody s_law_step, defScope s_law_step, [], []⟩
def d_law_landing : He.DefD := ⟨("_law_landing", none), "_law_landing", "_law_landing", defArgs s_law_landing, defBody s_law_landing, defScope s_law_landing, [], []⟩
def d_law_is_number : He.DefD := ⟨("_law_is_number", none), "_law_is_number", "_law_is_number", defArgs s_law_is_number, defBody s_law_is_number, defScope s_law_is_number, [], []⟩
def d_law_is_step : He.DefD := ⟨("_law_is_step", none), "_law_is_step", "_law_is_step", defArgs s_law_is_step, defBody s_law_is_step, defScope s_law_is_step, [], []⟩
def d_law_is_program : He.DefD := ⟨("_law_is_program", none), "_law_is_program", "_law_is_program", defArgs s_law_is_program, defBody s_law_is_program, defScope s_law_is_program, [], []⟩
def d_law_wide : He.DefD := ⟨("_law_wide", none), "_law_wide", "_law_wide", defArgs s_law_wide, defBody s_law_wide, defScope s_law_wide, [], []⟩
def d_law_deep : He.DefD := ⟨("_law_deep", none), "_law_deep", "_law_deep", defArgs s_law_deep, defBody s_law_deep, defScope s_law_deep, [], []⟩
def d_law_changed : He.DefD := ⟨("_law_changed", none), "_law_changed", "_law_changed", defArgs s_law_changed, defBody s_law_changed, defScope s_law_changed, [], []⟩
def d_law_first : He.DefD := ⟨("_law_first", none), "_law_first", "_law_first", defArgs s_law_first, defBody s_law_first, defScope s_law_first, [], []⟩
def d_law_rows : He.DefD := ⟨("_law_rows", none), "_law_rows", "_law_rows", defArgs s_law_rows, defBody s_law_rows, defScope s_law_rows, [], []⟩
def d_law : He.DefD := ⟨("law", none), "law", "law", defArgs s_law, defBody s_law, defScope s_law, [], []⟩
def fn0 : List He.DefD := [d_is_integer, d_is_name, d_is_list, d_is_row, d_need_row, d_need_width, d_is_open, d_row_of, d_row_in, d_is_card]
def fn1 : List He.DefD := [d_Pack_Dinit, d_Pack_Dlen, d_Pack_cards, d_Pack_width, d_need_pack, d_parts_of, d_size_in, d_is_request, d_need_request, d_holes_in]
def fn2 : List He.DefD := [d_need_holes, d_holds, d_fits, d_picks, d_difference, d_is_tray, d_is_step, d_is_program, d_need_program, d_needled]
def fn3 : List He.DefD := [d_landing, d_fault, d_nested, d_steps_for, d_program_for, d_law_cell, d_law_box, d_law_take, d_law_even, d_law_names]
def fn4 : List He.DefD := [d_law_parts, d_law_fits, d_law_holes, d_law_step, d_law_landing, d_law_is_number, d_law_is_step, d_law_is_program, d_law_wide, d_law_deep]
def fn5 : List He.DefD := [d_law_changed, d_law_first, d_law_rows, d_law]
def fn : List He.DefD := fn0 ++ fn1 ++ fn2 ++ fn3 ++ fn4 ++ fn5
def fa0 : List He.Fa := [.glo "DOUBLE", .glo "LEAVES", .glo "Pack", .glo "SIMPLE", .glo "_law_box", .glo "_law_cell", .glo "_law_changed", .glo "_law_deep", .glo "_law_even", .glo "_law_first"]
def fa1 : List He.Fa := [.glo "_law_fits", .glo "_law_holes", .glo "_law_is_number", .glo "_law_is_program", .glo "_law_is_step", .glo "_law_landing", .glo "_law_names", .glo "_law_parts", .glo "_law_rows", .glo "_law_step"]
def fa2 : List He.Fa := [.glo "_law_take", .glo "_law_wide", .glo "difference", .glo "fault", .glo "fits", .glo "holds", .glo "holes_in", .glo "is_card", .glo "is_integer", .glo "is_list"]
def fa3 : List He.Fa := [.glo "is_name", .glo "is_open", .glo "is_program", .glo "is_request", .glo "is_row", .glo "is_step", .glo "is_tray", .glo "landing", .glo "law", .glo "need_holes"]
def fa4 : List He.Fa := [.glo "need_pack", .glo "need_program", .glo "need_request", .glo "need_row", .glo "need_width", .glo "needled", .glo "nested", .glo "parts_of", .glo "picks", .glo "program_for"]
def fa5 : List He.Fa := [.glo "row_in", .glo "row_of", .glo "size_in", .glo "steps_for", .free "all", .free "any", .free "bool", .free "enumerate", .free "int", .free "isinstance"]
def fa6 : List He.Fa := [.free "len", .free "list", .free "max", .free "min", .free "range", .free "repr", .free "str", .free "sum", .free "tuple", .str "CLOSED" "o"]
def fa7 : List He.Fa := [.int "DEEPEST" 12, .int "FIRST" 0, .str "LETTERS" "abcdefghijklmnopqrstuvwxyz", .int "LONGEST_NAME" 8, .int "MOST_CARDS" 60, .int "MOST_NESTED" 5, .int "MOST_PARTS" 60, .int "MOST_STEPS" 60, .str "OPEN" "v", .int "OTHERS" 2]
def fa8 : List He.Fa := [.int "PICKED" 1, .int "TRAYS" 8, .int "WIDEST" 24, .int "WIDEST_JUDGED_asks" 10, .int "WIDEST_JUDGED_programs" 10, .meth "Pack" "__len__", .meth "Pack" "cards", .meth "Pack" "width", .cls "Pack", .noat "Pack" "pack_rows"]
def fa9 : List He.Fa := [.mkr "Pack"]
def fa : List He.Fa := fa0 ++ fa1 ++ fa2 ++ fa3 ++ fa4 ++ fa5 ++ fa6 ++ fa7 ++ fa8 ++ fa9
def exB (K : PySem.W.Frag) : Bool := (cstB K (He.ga K "LEAVES") ["open", "closed"] && (cstB K (He.ga K "SIMPLE") ["all", "none"] && (cstB K (He.ga K "DOUBLE") ["and", "or"] && ownB K (He.ga K "Pack"))))
theorem exQ {K : PySem.W.Frag} (h : exB K = true) : cstB K (He.ga K "LEAVES") ["open", "closed"] = true ∧ cstB K (He.ga K "SIMPLE") ["all", "none"] = true ∧ cstB K (He.ga K "DOUBLE") ["and", "or"] = true := by
  obtain ⟨h1, h⟩ := He.ba h
  obtain ⟨h2, h⟩ := He.ba h
  obtain ⟨h3, h⟩ := He.ba h
  exact ⟨h1, h2, h3⟩
theorem exP {K : PySem.W.Frag} (h : exB K = true) : ownB K (He.ga K "Pack") = true := by
  obtain ⟨h1, h⟩ := He.ba h
  obtain ⟨h2, h⟩ := He.ba h
  obtain ⟨h3, h⟩ := He.ba h
  exact h
abbrev RR : PySem.W.OpenRow := PySem.W.OpenLaw.row PySem.Challenge.rw_needlecards_k46_large_requests
abbrev hk : PySem.W.Hook := R.hookY 4 fa fn exB
def ob (s : PySem.W.SharedT) : He.AlD × Bool := R.obsY 4 fa fn exB (HandSHeadRun.getT s)
theorem ob_eq (s : PySem.W.SharedT) : ob s = hk.obs s.abs := R.obsY_eq (HandSHeadRun.getT_eq s)
def names0 : List Str := ["CardError", "Absent", "BadRow", "BadHole", "BadNumber", "BadCard", "BadPack", "Doubled", "BadRequest", "BadProgram"]
def names1 : List Str := ["TooDeep", "Unlike", "NoCard", "LETTERS", "LONGEST_NAME", "is_integer", "is_name", "is_list", "CLOSED", "OPEN"]
def names2 : List Str := ["WIDEST", "is_row", "need_row", "need_width", "is_open", "row_of", "row_in", "MOST_CARDS", "BETWEEN", "is_card"]
def names3 : List Str := ["card_text", "Pack", "need_pack", "MOST_PARTS", "DEEPEST", "LEAVES", "SIMPLE", "DOUBLE", "WIDEST_JUDGED_asks", "parts_of"]
def names4 : List Str := ["size_in", "is_request", "need_request", "holes_in", "need_holes", "holds", "fits", "picks", "difference", "TRAYS"]
def names5 : List Str := ["MOST_STEPS", "WIDEST_JUDGED_programs", "FIRST", "PICKED", "OTHERS", "MOST_NESTED", "is_tray", "is_step", "is_program", "need_program"]
def names6 : List Str := ["needled", "landing", "fault", "nested", "steps_for", "program_for", "_law_cell", "_law_box", "_law_take", "_law_even"]
def names7 : List Str := ["_law_names", "_law_row", "_law_parts", "_law_fits", "_law_holes", "_law_step", "_law_landing", "_law_is_number", "_law_is_step", "_law_is_program"]
def names8 : List Str := ["_law_chain", "_law_wide", "_law_deep", "_law_changed", "_law_first", "_law_rows"]
def names : List Str := names0 ++ names1 ++ names2 ++ names3 ++ names4 ++ names5 ++ names6 ++ names7 ++ names8
theorem run (w : World) : HandSHeadRun.RunEq RR (PySem.W.view RR.prog [93]) hk ob 60000 names w := by
  intro os
  kernel_rfl
theorem txt {K : PySem.W.Frag} {h : Heap} {mg : Str → Option Value} (X : K.In h) (G : h.Ns mainGlobals mg) (c : R.SaysY fa fn exB K) : Txt K mg :=
  { g_DOUBLE := He.glo_ok X G (c.d.fact 0 (f := .glo "DOUBLE") rfl),
    g_LEAVES := He.glo_ok X G (c.d.fact 1 (f := .glo "LEAVES") rfl),
    g_Pack := He.glo_ok X G (c.d.fact 2 (f := .glo "Pack") rfl),
    g_SIMPLE := He.glo_ok X G (c.d.fact 3 (f := .glo "SIMPLE") rfl),
    g__law_box := He.glo_ok X G (c.d.fact 4 (f := .glo "_law_box") rfl),
    g__law_cell := He.glo_ok X G (c.d.fact 5 (f := .glo "_law_cell") rfl),
    g__law_changed := He.glo_ok X G (c.d.fact 6 (f := .glo "_law_changed") rfl),
    g__law_deep := He.glo_ok X G (c.d.fact 7 (f := .glo "_law_deep") rfl),
    g__law_even := He.glo_ok X G (c.d.fact 8 (f := .glo "_law_even") rfl),
    g__law_first := He.glo_ok X G (c.d.fact 9 (f := .glo "_law_first") rfl),
    g__law_fits := He.glo_ok X G (c.d.fact 10 (f := .glo "_law_fits") rfl),
    g__law_holes := He.glo_ok X G (c.d.fact 11 (f := .glo "_law_holes") rfl),
    g__law_is_number := He.glo_ok X G (c.d.fact 12 (f := .glo "_law_is_number") rfl),
    g__law_is_program := He.glo_ok X G (c.d.fact 13 (f := .glo "_law_is_program") rfl),
    g__law_is_step := He.glo_ok X G (c.d.fact 14 (f := .glo "_law_is_step") rfl),
    g__law_landing := He.glo_ok X G (c.d.fact 15 (f := .glo "_law_landing") rfl),
    g__law_names := He.glo_ok X G (c.d.fact 16 (f := .glo "_law_names") rfl),
    g__law_parts := He.glo_ok X G (c.d.fact 17 (f := .glo "_law_parts") rfl),
    g__law_rows := He.glo_ok X G (c.d.fact 18 (f := .glo "_law_rows") rfl),
    g__law_step := He.glo_ok X G (c.d.fact 19 (f := .glo "_law_step") rfl),
    g__law_take := He.glo_ok X G (c.d.fact 20 (f := .glo "_law_take") rfl),
    g__law_wide := He.glo_ok X G (c.d.fact 21 (f := .glo "_law_wide") rfl),
    g_difference := He.glo_ok X G (c.d.fact 22 (f := .glo "difference") rfl),
    g_fault := He.glo_ok X G (c.d.fact 23 (f := .glo "fault") rfl),
    g_fits := He.glo_ok X G (c.d.fact 24 (f := .glo "fits") rfl),
    g_holds := He.glo_ok X G (c.d.fact 25 (f := .glo "holds") rfl),
    g_holes_in := He.glo_ok X G (c.d.fact 26 (f := .glo "holes_in") rfl),
    g_is_card := He.glo_ok X G (c.d.fact 27 (f := .glo "is_card") rfl),
    g_is_integer := He.glo_ok X G (c.d.fact 28 (f := .glo "is_integer") rfl),
    g_is_list := He.glo_ok X G (c.d.fact 29 (f := .glo "is_list") rfl),
    g_is_name := He.glo_ok X G (c.d.fact 30 (f := .glo "is_name") rfl),
    g_is_open := He.glo_ok X G (c.d.fact 31 (f := .glo "is_open") rfl),
    g_is_program := He.glo_ok X G (c.d.fact 32 (f := .glo "is_program") rfl),
    g_is_request := He.glo_ok X G (c.d.fact 33 (f := .glo "is_request") rfl),
    g_is_row := He.glo_ok X G (c.d.fact 34 (f := .glo "is_row") rfl),
    g_is_step := He.glo_ok X G (c.d.fact 35 (f := .glo "is_step") rfl),
    g_is_tray := He.glo_ok X G (c.d.fact 36 (f := .glo "is_tray") rfl),
    g_landing := He.glo_ok X G (c.d.fact 37 (f := .glo "landing") rfl),
    g_law := He.glo_ok X G (c.d.fact 38 (f := .glo "law") rfl),
    g_need_holes := He.glo_ok X G (c.d.fact 39 (f := .glo "need_holes") rfl),
    g_need_pack := He.glo_ok X G (c.d.fact 40 (f := .glo "need_pack") rfl),
    g_need_program := He.glo_ok X G (c.d.fact 41 (f := .glo "need_program") rfl),
    g_need_request := He.glo_ok X G (c.d.fact 42 (f := .glo "need_request") rfl),
    g_need_row := He.glo_ok X G (c.d.fact 43 (f := .glo "need_row") rfl),
    g_need_width := He.glo_ok X G (c.d.fact 44 (f := .glo "need_width") rfl),
    g_needled := He.glo_ok X G (c.d.fact 45 (f := .glo "needled") rfl),
    g_nested := He.glo_ok X G (c.d.fact 46 (f := .glo "nested") rfl),
    g_parts_of := He.glo_ok X G (c.d.fact 47 (f := .glo "parts_of") rfl),
    g_picks := He.glo_ok X G (c.d.fact 48 (f := .glo "picks") rfl),
    g_program_for := He.glo_ok X G (c.d.fact 49 (f := .glo "program_for") rfl),
    g_row_in := He.glo_ok X G (c.d.fact 50 (f := .glo "row_in") rfl),
    g_row_of := He.glo_ok X G (c.d.fact 51 (f := .glo "row_of") rfl),
    g_size_in := He.glo_ok X G (c.d.fact 52 (f := .glo "size_in") rfl),
    g_steps_for := He.glo_ok X G (c.d.fact 53 (f := .glo "steps_for") rfl),
    n_all := He.free_ok X G (c.d.fact 54 (f := .free "all") rfl),
    n_any := He.free_ok X G (c.d.fact 55 (f := .free "any") rfl),
    n_bool := He.free_ok X G (c.d.fact 56 (f := .free "bool") rfl),
    n_enumerate := He.free_ok X G (c.d.fact 57 (f := .free "enumerate") rfl),
    n_int := He.free_ok X G (c.d.fact 58 (f := .free "int") rfl),
    n_isinstance := He.free_ok X G (c.d.fact 59 (f := .free "isinstance") rfl),
    n_len := He.free_ok X G (c.d.fact 60 (f := .free "len") rfl),
    n_list := He.free_ok X G (c.d.fact 61 (f := .free "list") rfl),
    n_max := He.free_ok X G (c.d.fact 62 (f := .free "max") rfl),
    n_min := He.free_ok X G (c.d.fact 63 (f := .free "min") rfl),
    n_range := He.free_ok X G (c.d.fact 64 (f := .free "range") rfl),
    n_repr := He.free_ok X G (c.d.fact 65 (f := .free "repr") rfl),
    n_str := He.free_ok X G (c.d.fact 66 (f := .free "str") rfl),
    n_sum := He.free_ok X G (c.d.fact 67 (f := .free "sum") rfl),
    n_tuple := He.free_ok X G (c.d.fact 68 (f := .free "tuple") rfl),
    c_CLOSED := He.str_ok X G (c.d.fact 69 (f := .str "CLOSED" "o") rfl),
    c_DEEPEST := He.int_ok X G (c.d.fact 70 (f := .int "DEEPEST" 12) rfl),
    c_FIRST := He.int_ok X G (c.d.fact 71 (f := .int "FIRST" 0) rfl),
    c_LETTERS := He.str_ok X G (c.d.fact 72 (f := .str "LETTERS" "abcdefghijklmnopqrstuvwxyz") rfl),
    c_LONGEST_NAME := He.int_ok X G (c.d.fact 73 (f := .int "LONGEST_NAME" 8) rfl),
    c_MOST_CARDS := He.int_ok X G (c.d.fact 74 (f := .int "MOST_CARDS" 60) rfl),
    c_MOST_NESTED := He.int_ok X G (c.d.fact 75 (f := .int "MOST_NESTED" 5) rfl),
    c_MOST_PARTS := He.int_ok X G (c.d.fact 76 (f := .int "MOST_PARTS" 60) rfl),
    c_MOST_STEPS := He.int_ok X G (c.d.fact 77 (f := .int "MOST_STEPS" 60) rfl),
    c_OPEN := He.str_ok X G (c.d.fact 78 (f := .str "OPEN" "v") rfl),
    c_OTHERS := He.int_ok X G (c.d.fact 79 (f := .int "OTHERS" 2) rfl),
    c_PICKED := He.int_ok X G (c.d.fact 80 (f := .int "PICKED" 1) rfl),
    c_TRAYS := He.int_ok X G (c.d.fact 81 (f := .int "TRAYS" 8) rfl),
    c_WIDEST := He.int_ok X G (c.d.fact 82 (f := .int "WIDEST" 24) rfl),
    c_WIDEST_JUDGED_asks := He.int_ok X G (c.d.fact 83 (f := .int "WIDEST_JUDGED_asks" 10) rfl),
    c_WIDEST_JUDGED_programs := He.int_ok X G (c.d.fact 84 (f := .int "WIDEST_JUDGED_programs" 10) rfl),
    f_is_integer := c.d.def_ 0 (d := d_is_integer) rfl,
    f_is_name := c.d.def_ 1 (d := d_is_name) rfl,
    f_is_list := c.d.def_ 2 (d := d_is_list) rfl,
    f_is_row := c.d.def_ 3 (d := d_is_row) rfl,
    f_need_row := c.d.def_ 4 (d := d_need_row) rfl,
    f_need_width := c.d.def_ 5 (d := d_need_width) rfl,
    f_is_open := c.d.def_ 6 (d := d_is_open) rfl,
    f_row_of := c.d.def_ 7 (d := d_row_of) rfl,
    f_row_in := c.d.def_ 8 (d := d_row_in) rfl,
    f_is_card := c.d.def_ 9 (d := d_is_card) rfl,
    f_Pack_Dinit := c.d.def_ 10 (d := d_Pack_Dinit) rfl,
    f_Pack_Dlen := c.d.def_ 11 (d := d_Pack_Dlen) rfl,
    m_Pack_Dlen := He.meth_ok (c.d.fact 85 (f := .meth "Pack" "__len__") rfl),
    f_Pack_cards := c.d.def_ 12 (d := d_Pack_cards) rfl,
    m_Pack_cards := He.meth_ok (c.d.fact 86 (f := .meth "Pack" "cards") rfl),
    f_Pack_width := c.d.def_ 13 (d := d_Pack_width) rfl,
    m_Pack_width := He.meth_ok (c.d.fact 87 (f := .meth "Pack" "width") rfl),
    f_need_pack := c.d.def_ 14 (d := d_need_pack) rfl,
    f_parts_of := c.d.def_ 15 (d := d_parts_of) rfl,
    f_size_in := c.d.def_ 16 (d := d_size_in) rfl,
    f_is_request := c.d.def_ 17 (d := d_is_request) rfl,
    f_need_request := c.d.def_ 18 (d := d_need_request) rfl,
    f_holes_in := c.d.def_ 19 (d := d_holes_in) rfl,
    f_need_holes := c.d.def_ 20 (d := d_need_holes) rfl,
    f_holds := c.d.def_ 21 (d := d_holds) rfl,
    f_fits := c.d.def_ 22 (d := d_fits) rfl,
    f_picks := c.d.def_ 23 (d := d_picks) rfl,
    f_difference := c.d.def_ 24 (d := d_difference) rfl,
    f_is_tray := c.d.def_ 25 (d := d_is_tray) rfl,
    f_is_step := c.d.def_ 26 (d := d_is_step) rfl,
    f_is_program := c.d.def_ 27 (d := d_is_program) rfl,
    f_need_program := c.d.def_ 28 (d := d_need_program) rfl,
    f_needled := c.d.def_ 29 (d := d_needled) rfl,
    f_landing := c.d.def_ 30 (d := d_landing) rfl,
    f_fault := c.d.def_ 31 (d := d_fault) rfl,
    f_nested := c.d.def_ 32 (d := d_nested) rfl,
    f_steps_for := c.d.def_ 33 (d := d_steps_for) rfl,
    f_program_for := c.d.def_ 34 (d := d_program_for) rfl,
    f_law_cell := c.d.def_ 35 (d := d_law_cell) rfl,
    f_law_box := c.d.def_ 36 (d := d_law_box) rfl,
    f_law_take := c.d.def_ 37 (d := d_law_take) rfl,
    f_law_even := c.d.def_ 38 (d := d_law_even) rfl,
    f_law_names := c.d.def_ 39 (d := d_law_names) rfl,
    f_law_parts := c.d.def_ 40 (d := d_law_parts) rfl,
    f_law_fits := c.d.def_ 41 (d := d_law_fits) rfl,
    f_law_holes := c.d.def_ 42 (d := d_law_holes) rfl,
    f_law_step := c.d.def_ 43 (d := d_law_step) rfl,
    f_law_landing := c.d.def_ 44 (d := d_law_landing) rfl,
    f_law_is_number := c.d.def_ 45 (d := d_law_is_number) rfl,
    f_law_is_step := c.d.def_ 46 (d := d_law_is_step) rfl,
    f_law_is_program := c.d.def_ 47 (d := d_law_is_program) rfl,
    f_law_wide := c.d.def_ 48 (d := d_law_wide) rfl,
    f_law_deep := c.d.def_ 49 (d := d_law_deep) rfl,
    f_law_changed := c.d.def_ 50 (d := d_law_changed) rfl,
    f_law_first := c.d.def_ 51 (d := d_law_first) rfl,
    f_law_rows := c.d.def_ 52 (d := d_law_rows) rfl,
    f_law := c.d.def_ 53 (d := d_law) rfl,
    pk := ⟨He.cls_ok (c.d.fact 88 (f := .cls "Pack") rfl), He.noat_ok (c.d.fact 89 (f := .noat "Pack" "pack_rows") rfl), ownB_ok (He.cls_ok (c.d.fact 88 (f := .cls "Pack") rfl)) (exP c.more)⟩,
    mk_Pack := He.mkr_ok (c.d.fact 90 (f := .mkr "Pack") rfl),
    ak := ⟨cstB_ok (exQ c.more).1, cstB_ok (exQ c.more).2.1, cstB_ok (exQ c.more).2.2⟩ }
theorem facts {P : Program} {w : World} {K : PySem.W.Frag} {h : Heap} {mg : Str → Option Value} {f : Addr} (X : K.In h) (G : h.Ns mainGlobals mg) (hfa : mg ("law" : Str) = some (.ref f)) (c : R.SaysY fa fn exB K) :
    ∃ fd : FuncData, (∀ (s : Shared) (v : Value), BindsTo s fd ⟨[v], []⟩ [("script", v)]) ∧ ∀ base : Heap, K.In base → base.Ns mainGlobals mg → FnOkG P w K mg base CX0 20 f fd ["script"] (sp_law K) := by
  have T := txt X G c
  obtain ⟨fd, F⟩ := T.f_law
  have e := hfa.symm.trans T.g_law
  cases e
  have b := FunD.bindsA (ps := ["script"]) F fun _ _ _ _ _ _ us hl => match us, hl with | [_], _ => rfl
  exact ⟨fd, fun s v => b s [v] rfl, fun base _ _ => ok_law T F⟩
end W46
open PySem PySem.W PySem.Calls PyProof.Rows
theorem PySem.Challenge.cw_needlecards_k46_large_requests_holds : PySem.Challenge.rw_needlecards_k46_large_requests.Holds := by
  w_on; o_law
  refine HandSHeadRun.head_any (r := OpenLaw.row PySem.Challenge.rw_needlecards_k46_large_requests) (q := view (OpenLaw.row PySem.Challenge.rw_needlecards_k46_large_requests).prog [93]) (H := W46.hk) (ob := W46.ob) (M := 60000) (loose := W46.names) (d := HandSHeadRun.topDef (OpenLaw.row PySem.Challenge.rw_needlecards_k46_large_requests).prog 93) (kwd := []) W46.ob_eq
    (by kernel_rfl) (fun s => by kernel_rfl) W46.run (by kernel_rfl) (by kernel_rfl) (by kernel_rfl) (by rfl) (by first | assumption | decide +kernel) (by decide +kernel) ⟨rfl, rfl, rfl, rfl, rfl, by decide +kernel⟩ ?hw ?hc
  case hw => w_witness2
  case hc =>
    refine R.walk_ofG (l := PySem.Challenge.rw_needlecards_k46_large_requests) (n := 63) (k := 20) (x := "script") (CX := fun _ => L2.CX0) rfl (by decide) (by kernel_rfl) ⟨rfl, by decide, by decide⟩ ?F (fun _ _ _ _ _ z => z)
    intro w mg fa h Y G hmg0
    obtain ⟨K, KX, c⟩ := Y
    have hmg : mg ("law" : PySem.Str) = some (.ref fa) := by
      have e : (HandSHeadRun.topDef (OpenLaw.row PySem.Challenge.rw_needlecards_k46_large_requests).prog 93).name = ("law" : PySem.Str) := by kernel_rfl
      rw [← e]
      exact hmg0
    obtain ⟨fd, hb, hF⟩ := W46.facts (P := (PySem.Challenge.rw_needlecards_k46_large_requests).prog) (w := w) KX G hmg c
    exact ⟨K, fd, R.sp_law K, KX, hb, fun H a ns hl _ hS => R.sp_law_start (Nat.le_trans hl (by decide)) hS, hF⟩
