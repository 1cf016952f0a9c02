import PyProof.Rows.All
import Wide.All
import OpenK.AllK
import Wide.FinOn
import HandS.ForMost
import HandS.Walk
import HandS.Wide
import HandS.IsInst
import HandS.HeadHook2
import HandS.Steps
import HandS.WordsExc
import HandS.ListItems
import HandS.SortKw
import KE.DataMinMax
import OpenK.KOps
import KE.SortData
import PyProof.StrOps2
import HandS.HeadHook4
import PyProof.ReprRoads
import HandS.Style
import HandS.HeadEnd
import HandS.Deep
import HandS.ExcInit
import HandS.ExcField
import HandS.ExcOwn
import PySem.Challenge.RW_needlecards_k47_many_needles_at_once
import HandS.Head0
import HandS.Head1
import HandS.Head2
set_option Elab.async false
set_option linter.all false
set_option maxRecDepth 100000
set_option maxHeartbeats 4123456
/-! R0: data, representation, environments, judgements. -/
namespace R
open PySem L2

/-- plain data -/
inductive Da where
  | non | bl (b : Bool) | int (i : Int) | str (x : Str)
  | lst (ds : List Da) | tup (ds : List Da) | dic (kvs : List (Key × Da)) | pck (cs : List (Str × Str)) | scr (ns : List Int)

abbrev PC (K : PySem.W.Frag) : Addr := He.ga K "Pack"
def rowsOf (cs : List (Str × Str)) : List (Key × V) := cs.map fun c => ((Sum.inr c.1 : Key), V.str c.2)

mutual
/-- the value v stands for the datum in the stable heap G -/
inductive Rep (K : PySem.W.Frag) (G : Hp) : V → Da → Prop
  | non : Rep K G .non .non
  | bl (b : Bool) : Rep K G (.bl b) (.bl b)
  | int (i : Int) : Rep K G (.int i) (.int i)
  | str (x : Str) : Rep K G (.str x) (.str x)
  | lst {a : Addr} {xs : List V} {ds : List Da} : G a = some (.lst xs) → Reps K G xs ds → Rep K G (.ref a) (.lst ds)
  | tup {a : Addr} {xs : List V} {ds : List Da} : SqT K G a xs → Reps K G xs ds → Rep K G (.ref a) (.tup ds)
  | dic {a : Addr} {o : Obj} {kvs : List (Key × V)} {kds : List (Key × Da)} : G a = some (.frz o (.dK kvs)) → RepK K G kvs kds → Rep K G (.ref a) (.dic kds)
  | pck {a dx d : Addr} {o : Obj} {cs : List (Str × Str)} : G a = some (.ins (PC K) dx [(("pack_rows" : Str), .ref d)]) → G dx = some (.own a) → G d = some (.frz o (.dK (rowsOf cs))) → Rep K G (.ref a) (.pck cs)
  | scr {a : Addr} {ns : List Int} : SqL K G a (ns.map V.int) → Rep K G (.ref a) (.scr ns)
inductive Reps (K : PySem.W.Frag) (G : Hp) : List V → List Da → Prop
  | nil : Reps K G [] []
  | cons {v : V} {d : Da} {vs : List V} {ds : List Da} : Rep K G v d → Reps K G vs ds → Reps K G (v :: vs) (d :: ds)
inductive RepK (K : PySem.W.Frag) (G : Hp) : List (Key × V) → List (Key × Da) → Prop
  | nil : RepK K G [] []
  | cons {k : Key} {v : V} {d : Da} {vs : List (Key × V)} {ds : List (Key × Da)} : Rep K G v d → RepK K G vs ds → RepK K G ((k, v) :: vs) ((k, d) :: ds)
end

theorem sqT_same {K : PySem.W.Frag} {H H' : Hp} {a : Addr} {xs : List V} (e : Same H H') (h : SqT K H a xs) : SqT K H' a xs := by
  rcases h with (h | ⟨o, h⟩) | h
  · exact .inl (.inl (e _ _ h))
  · exact .inl (.inr ⟨o, e _ _ h⟩)
  · exact .inr h

section
variable {K : PySem.W.Frag} {G G' : Hp}
mutual
theorem Rep.mono (e : Same G G') : ∀ {v : V} {d : Da}, Rep K G v d → Rep K G' v d
  | _, _, .non => .non
  | _, _, .bl b => .bl b
  | _, _, .int i => .int i
  | _, _, .str x => .str x
  | _, _, .lst h r => .lst (e _ _ h) (Reps.mono e r)
  | _, _, .tup h r => .tup (sqT_same e h) (Reps.mono e r)
  | _, _, .dic h r => .dic (e _ _ h) (RepK.mono e r)
  | _, _, .pck h1 h2 h3 => .pck (e _ _ h1) (e _ _ h2) (e _ _ h3)
  | _, _, .scr h => .scr (e.seq h)
theorem Reps.mono (e : Same G G') : ∀ {v : List V} {d : List Da}, Reps K G v d → Reps K G' v d
  | _, _, .nil => .nil
  | _, _, .cons h r => .cons (Rep.mono e h) (Reps.mono e r)
theorem RepK.mono (e : Same G G') : ∀ {v : List (Key × V)} {d : List (Key × Da)}, RepK K G v d → RepK K G' v d
  | _, _, .nil => .nil
  | _, _, .cons h r => .cons (Rep.mono e h) (RepK.mono e r)
end
theorem Reps.len : ∀ {vs : List V} {ds : List Da}, Reps K G vs ds → vs.length = ds.length
  | _, _, .nil => rfl
  | _, _, .cons _ r => congrArg (· + 1) r.len
theorem Reps.get : ∀ {vs : List V} {ds : List Da} {i : Nat} {d : Da}, Reps K G vs ds → ds[i]? = some d → ∃ v, vs[i]? = some v ∧ Rep K G v d
  | _, _, _, _, .nil, e => by simp at e
  | _, _, 0, _, .cons h _, e => by simp at e; subst e; exact ⟨_, rfl, h⟩
  | _, _, i + 1, d, .cons _ r, e => by
    obtain ⟨v, h1, h2⟩ := Reps.get (i := i) (d := d) r (by simpa using e)
    exact ⟨v, by simpa using h1, h2⟩
theorem Reps.getV : ∀ {vs : List V} {ds : List Da} {i : Nat} {v : V}, Reps K G vs ds → vs[i]? = some v → ∃ d, ds[i]? = some d ∧ Rep K G v d
  | _, _, _, _, .nil, e => by simp at e
  | _, _, 0, _, .cons h _, e => by simp at e; subst e; exact ⟨_, rfl, h⟩
  | _, _, i + 1, d, .cons _ r, e => by
    obtain ⟨v, h1, h2⟩ := Reps.getV (i := i) r (by simpa using e)
    exact ⟨v, by simpa using h1, h2⟩
theorem Reps.app : ∀ {vs ws : List V} {ds es : List Da}, Reps K G vs ds → Reps K G ws es → Reps K G (vs ++ ws) (ds ++ es)
  | _, _, _, _, .nil, s => s
  | _, _, _, _, .cons h r, s => .cons h (r.app s)
theorem Reps.take : ∀ {vs : List V} {ds : List Da} (n : Nat), Reps K G vs ds → Reps K G (vs.take n) (ds.take n)
  | _, _, 0, _ => .nil
  | _, _, _ + 1, .nil => .nil
  | _, _, n + 1, .cons h r => .cons h (r.take n)
theorem Reps.drop : ∀ {vs : List V} {ds : List Da} (n : Nat), Reps K G vs ds → Reps K G (vs.drop n) (ds.drop n)
  | _, _, 0, r => r
  | _, _, _ + 1, .nil => .nil
  | _, _, n + 1, .cons _ r => r.drop n
theorem Reps.set {v : V} {d : Da} (h : Rep K G v d) : ∀ {vs : List V} {ds : List Da} (i : Nat), Reps K G vs ds → Reps K G (vs.set i v) (ds.set i d)
  | _, _, _, .nil => .nil
  | _, _, 0, .cons _ r => .cons h r
  | _, _, i + 1, .cons q r => .cons q (Reps.set h i r)
theorem Reps.eraseIdx : ∀ {vs : List V} {ds : List Da} (i : Nat), Reps K G vs ds → Reps K G (vs.eraseIdx i) (ds.eraseIdx i)
  | _, _, _, .nil => .nil
  | _, _, 0, .cons _ r => r
  | _, _, i + 1, .cons q r => .cons q (Reps.eraseIdx i r)
theorem Reps.rev {vs : List V} {ds : List Da} (h : Reps K G vs ds) : Reps K G vs.reverse ds.reverse := by
  induction vs generalizing ds with
  | nil => cases h; exact .nil
  | cons v vs ih =>
    cases h with
    | cons h r =>
      rw [List.reverse_cons, List.reverse_cons]
      exact (ih r).app (.cons h .nil)
end

/-- G's knowledge grows, H keeps all but the box; what H tracks beside G stays beside G' -/
structure Ext (bx : Option Addr) (G H G' H' : Hp) : Prop where
  gg : Same G G'
  hh : ∀ a o, bx ≠ some a → H a = some o → H' a = some o
  hn : ∀ a, H a ≠ none → H' a ≠ none
  gs : ∀ a, H a ≠ none → G' a = G a
  le : Same G' H'
theorem Ext.refl {bx : Option Addr} {G H : Hp} (h : Same G H) : Ext bx G H G H := ⟨Same.refl G, fun _ _ _ h => h, fun _ h => h, fun _ _ => rfl, h⟩
theorem Ext.trans {bx : Option Addr} {G H G1 H1 G2 H2 : Hp} (a : Ext bx G H G1 H1) (b : Ext bx G1 H1 G2 H2) : Ext bx G H G2 H2 :=
  ⟨a.gg.trans b.gg, fun x o n h => b.hh x o n (a.hh x o n h), fun x h => b.hn x (a.hn x h), fun x h => (b.gs x (a.hn x h)).trans (a.gs x h), b.le⟩
theorem Ext.none_to {bx : Option Addr} {G H G' H' : Hp} (a : Ext none G H G' H') : Ext bx G H G' H' :=
  ⟨a.gg, fun x o _ h => a.hh x o (fun z => nomatch z) h, a.hn, a.gs, a.le⟩
/-- a new object becomes known -/
theorem Ext.new {bx : Option Addr} {G H : Hp} {p : Addr} {o : HO} (le : Same G H) (hp : H p = none) : Ext bx G H (upd G p o) (upd H p o) := by
  have gp : G p = none := le.free hp
  refine ⟨fun a u e => ?_, fun a u _ e => ?_, fun a e => ?_, fun a e => ?_, fun a u e => ?_⟩
  · rw [upd_ne (ne_of_none e gp)]; exact e
  · rw [upd_ne (ne_of_none e hp)]; exact e
  · by_cases h : a = p
    · rw [h, upd_same]; exact fun z => nomatch z
    · rw [upd_ne h]; exact e
  · rw [upd_ne (fun z => e (by rw [z]; exact hp))]
  · by_cases h : a = p
    · rw [h, upd_same] at e ⊢; exact e
    · rw [upd_ne h] at e ⊢; exact le a u e
/-- a new object, not known as yet -/
theorem Ext.own {bx : Option Addr} {G H : Hp} {p : Addr} {o : HO} (le : Same G H) (hp : H p = none) : Ext bx G H G (upd H p o) := by
  refine ⟨Same.refl G, fun a u _ e => ?_, fun a e => ?_, fun a e => rfl, fun a u e => ?_⟩
  · rw [upd_ne (ne_of_none e hp)]; exact e
  · by_cases h : a = p
    · rw [h, upd_same]; exact fun z => nomatch z
    · rw [upd_ne h]; exact e
  · rw [upd_ne (ne_of_none (le a u e) hp)]; exact le a u e

/-- what a slot holds -/
inductive En where
  | any | rep (d : Da) | own (ds : List Da) | box (n : Nat)
def BoxV (c0 c1 c2 : Int) (n : Nat) : Prop := 0 ≤ c0 ∧ 0 ≤ c1 ∧ c1 < 2147483629 ∧ 0 ≤ c2 ∧ c2 ≤ (n : Int)
def EnOk (K : PySem.W.Frag) (He : Hp) (bx : Option Addr) (G H : Hp) (o : Option V) : En → Prop
  | .any => True
  | .rep d => ∃ v, o = some v ∧ Rep K G v d
  | .own ds => ∃ l vs, o = some (.ref l) ∧ He l = none ∧ G l = none ∧ H l = some (.lst vs) ∧ Reps K G vs ds ∧ bx ≠ some l
  | .box n => ∃ b c0 c1 c2, o = some (.ref b) ∧ bx = some b ∧ G b = none ∧ H b = some (.lst [.int c0, .int c1, .int c2]) ∧ BoxV c0 c1 c2 n
structure ER (K : PySem.W.Frag) (bp : Option Addr) (He : Hp) (bx : Option Addr) (G H : Hp) (σ : L2.St) (δ : List En) : Prop where
  len : σ.length = δ.length
  at_ : ∀ (i : Nat) (en : En), δ[i]? = some en → EnOk K He bx G H (σ[i]?.join) en
  sep : ∀ (i j : Nat) (ds es : List Da) (l : Addr), i ≠ j → δ[i]? = some (.own ds) → δ[j]? = some (.own es) → σ[i]? = some (some (.ref l)) → σ[j]? ≠ some (some (.ref l))
  bxo : ∀ b, bx = some b → bp = some b ∨ He b = none
  bxt : ∀ b, bx = some b → H b ≠ none ∧ G b = none
  bxp : ∀ b, bp = some b → bx = some b

section
variable {K : PySem.W.Frag} {bp bx : Option Addr} {He G H G' H' : Hp} {σ : L2.St} {δ : List En}
theorem ER.lift (E : ER K bp He bx G H σ δ) (x : Ext none G H G' H') : ER K bp He bx G' H' σ δ := by
  refine ⟨E.len, fun i en h => ?_, E.sep, E.bxo, fun b e => ⟨x.hn b (E.bxt b e).1, (x.gs b (E.bxt b e).1).trans (E.bxt b e).2⟩, E.bxp⟩
  have q := E.at_ i en h
  cases en with
  | any => trivial
  | rep d =>
    obtain ⟨v, e, r⟩ := q
    exact ⟨v, e, r.mono x.gg⟩
  | own ds =>
    obtain ⟨l, vs, e, a, b, c, r, n⟩ := q
    have hn : H l ≠ none := by rw [c]; exact fun z => nomatch z
    exact ⟨l, vs, e, a, (x.gs l hn).trans b, x.hh l _ (fun z => nomatch z) c, r.mono x.gg, n⟩
  | box n =>
    obtain ⟨b, c0, c1, c2, e, e2, g, c, r⟩ := q
    have hn : H b ≠ none := by rw [c]; exact fun z => nomatch z
    exact ⟨b, c0, c1, c2, e, e2, (x.gs b hn).trans g, x.hh b _ (fun z => nomatch z) c, r⟩
theorem ER.notBox {l : Addr} (E : ER K bp He bx G H σ δ) (h : H l = none) : bx ≠ some l := fun z => (E.bxt l z).1 h
theorem ER.rep {i : Nat} {d : Da} (E : ER K bp He bx G H σ δ) (h : δ[i]? = some (.rep d)) : ∃ v, σ[i]? = some (some v) ∧ Rep K G v d := by
  obtain ⟨v, e, r⟩ := E.at_ i _ h
  refine ⟨v, ?_, r⟩
  cases q : σ[i]? with
  | none => rw [q] at e; cases e
  | some o => rw [q] at e; exact congrArg some e
theorem join_some {α : Type} {o : Option (Option α)} {v : α} (h : o.join = some v) : o = some (some v) := by
  cases o with
  | none => cases h
  | some o => exact congrArg some h
theorem ER.ownAt {i : Nat} {ds : List Da} (E : ER K bp He bx G H σ δ) (h : δ[i]? = some (.own ds)) :
    ∃ l vs, σ[i]? = some (some (.ref l)) ∧ He l = none ∧ G l = none ∧ H l = some (.lst vs) ∧ Reps K G vs ds ∧ bx ≠ some l := by
  obtain ⟨l, vs, e, r⟩ := E.at_ i _ h
  exact ⟨l, vs, join_some e, r⟩
theorem ER.boxAt {i : Nat} {n : Nat} (E : ER K bp He bx G H σ δ) (h : δ[i]? = some (.box n)) :
    ∃ b c0 c1 c2, σ[i]? = some (some (.ref b)) ∧ bx = some b ∧ G b = none ∧ H b = some (.lst [.int c0, .int c1, .int c2]) ∧ BoxV c0 c1 c2 n := by
  obtain ⟨b, c0, c1, c2, e, r⟩ := E.at_ i _ h
  exact ⟨b, c0, c1, c2, join_some e, r⟩
/-- a slot gets a value that stands for d -/
theorem ER.set {i : Nat} {v : V} {d : Da} (E : ER K bp He bx G H σ δ) (r : Rep K G v d) : ER K bp He bx G H (σ.set i (some v)) (δ.set i (.rep d)) := by
  refine ⟨by rw [List.length_set, List.length_set, E.len], fun j en h => ?_, fun j k ds es l ne h1 h2 h3 => ?_, E.bxo, E.bxt, E.bxp⟩
  · by_cases hj : i = j
    · subst hj
      by_cases hi : i < δ.length
      · rw [List.getElem?_set_self hi] at h
        cases h
        rw [List.getElem?_set_self (by rw [E.len]; exact hi)]
        exact ⟨v, rfl, r⟩
      · rw [List.getElem?_eq_none (by rw [List.length_set]; omega)] at h
        cases h
    · rw [List.getElem?_set_ne hj] at h ⊢
      exact E.at_ j en h
  · have n1 : i ≠ j := fun z => by
      subst z
      rw [List.getElem?_set] at h1
      split at h1 <;> simp_all
    have n2 : i ≠ k := fun z => by
      subst z
      rw [List.getElem?_set] at h2
      split at h2 <;> simp_all
    rw [List.getElem?_set_ne n1] at h1 h3
    rw [List.getElem?_set_ne n2] at h2 ⊢
    exact E.sep j k ds es l ne h1 h2 h3
/-- a slot gets a new list of one's own -/
theorem ER.setOwn {i : Nat} {l : Addr} {vs : List V} {ds : List Da} (E : ER K bp He bx G H σ δ) (hl : He l = none) (hg : G l = none) (hh : H l = some (.lst vs)) (r : Reps K G vs ds) (hb : bx ≠ some l)
    (new : ∀ (j : Nat) (es : List Da), δ[j]? = some (.own es) → σ[j]? ≠ some (some (.ref l))) : ER K bp He bx G H (σ.set i (some (.ref l))) (δ.set i (.own ds)) := by
  refine ⟨by rw [List.length_set, List.length_set, E.len], fun j en h => ?_, fun j k ds' es' l' ne h1 h2 h3 => ?_, E.bxo, E.bxt, E.bxp⟩
  · by_cases hj : i = j
    · subst hj
      by_cases hi : i < δ.length
      · rw [List.getElem?_set_self hi] at h
        cases h
        rw [List.getElem?_set_self (by rw [E.len]; exact hi)]
        exact ⟨l, vs, rfl, hl, hg, hh, r, hb⟩
      · rw [List.getElem?_eq_none (by rw [List.length_set]; omega)] at h
        cases h
    · rw [List.getElem?_set_ne hj] at h ⊢
      exact E.at_ j en h
  · by_cases hj : i = j
    · subst hj
      rw [List.getElem?_set_ne ne] at h2 ⊢
      by_cases hi : i < σ.length
      · rw [List.getElem?_set_self hi] at h3
        cases h3
        exact new k es' h2
      · rw [List.getElem?_eq_none (by rw [List.length_set]; omega)] at h3
        cases h3
    · rw [List.getElem?_set_ne hj] at h1 h3
      by_cases hk : i = k
      · subst hk
        intro z
        by_cases hi : i < σ.length
        · rw [List.getElem?_set_self hi] at z
          cases z
          exact new j ds' h1 h3
        · rw [List.getElem?_eq_none (by rw [List.length_set]; omega)] at z
          cases z
      · rw [List.getElem?_set_ne hk] at h2 ⊢
        exact E.sep j k ds' es' l' ne h1 h2 h3
end
end R
set_option maxHeartbeats 4123456
/-! R1: judgements. -/
namespace R
open PySem L2

theorem Ext.mut {bx : Option Addr} {G H G' H' : Hp} {p : Addr} {o : HO} (x : Ext bx G H G' H') (hp : H p = none) (hg : G' p = none) : Ext bx G H G' (upd H' p o) := by
  refine ⟨x.gg, fun a u n e => ?_, fun a e => ?_, x.gs, fun a u e => ?_⟩
  · rw [upd_ne (ne_of_none e hp)]; exact x.hh a u n e
  · by_cases h : a = p
    · rw [h, upd_same]; exact fun z => nomatch z
    · rw [upd_ne h]; exact x.hn a e
  · rw [upd_ne (ne_of_none e hg)]; exact x.le a u e
/-- the box is written -/
theorem Ext.boxed {G H : Hp} {b : Addr} {o : HO} (le : Same G H) (hg : G b = none) (hb : H b ≠ none) : Ext (some b) G H G (upd H b o) := by
  refine ⟨Same.refl G, fun a u n e => ?_, fun a e => ?_, fun _ _ => rfl, fun a u e => ?_⟩
  · rw [upd_ne (fun z => n (by rw [z]))]; exact e
  · by_cases h : a = b
    · rw [h, upd_same]; exact fun z => nomatch z
    · rw [upd_ne h]; exact e
  · rw [upd_ne (ne_of_none e hg)]; exact le a u e
/-- what one owns becomes known -/
theorem Ext.known {bx : Option Addr} {G H G' H' : Hp} {p : Addr} {o : HO} (x : Ext bx G H G' H') (hp : H p = none) (hg : G' p = none) (hh : H' p = some o) : Ext bx G H (upd G' p o) H' := by
  refine ⟨fun a u e => ?_, x.hh, x.hn, fun a e => ?_, fun a u e => ?_⟩
  · have q := x.gg a u e
    rw [upd_ne (ne_of_none q hg)]; exact q
  · rw [upd_ne (fun z => e (by rw [z]; exact hp))]; exact x.gs a e
  · by_cases h : a = p
    · rw [h, upd_same] at e; cases e; rw [h]; exact hh
    · rw [upd_ne h] at e; exact x.le a u e
theorem same_known {G : Hp} {p : Addr} {o : HO} (hg : G p = none) : Same G (upd G p o) := fun a u e => by
  rw [upd_ne (ne_of_none e hg)]; exact e
theorem Ext.join {bp bx : Option Addr} {Ge He G H G' H' : Hp} (x : Ext bp Ge He G H) (ok : ∀ b, bx = some b → bp = some b ∨ He b = none) (y : Ext bx G H G' H') : Ext bp Ge He G' H' := by
  refine ⟨x.gg.trans y.gg, fun a o n e => y.hh a o (fun z => ?_) (x.hh a o n e), fun a e => y.hn a (x.hn a e), fun a e => (y.gs a (x.hn a e)).trans (x.gs a e), y.le⟩
  rcases ok a z with q | q
  · exact n q
  · rw [q] at e; cases e

/-- c more draws from the box -/
def bmp1 (c : Nat) : En → En
  | .box n => .box (n + c)
  | e => e
def bmp (c : Nat) (δ : List En) : List En := δ.map (bmp1 c)
theorem bmp1_zero : ∀ e : En, bmp1 0 e = e
  | .any => rfl
  | .rep _ => rfl
  | .own _ => rfl
  | .box _ => rfl
theorem bmp_zero (δ : List En) : bmp 0 δ = δ := by
  unfold bmp
  have : (bmp1 0) = id := funext bmp1_zero
  rw [this, List.map_id]
theorem bmp1_add (a b : Nat) : ∀ e : En, bmp1 b (bmp1 a e) = bmp1 (a + b) e
  | .any => rfl
  | .rep _ => rfl
  | .own _ => rfl
  | .box n => congrArg En.box (Nat.add_assoc n a b)
theorem bmp_bmp (a b : Nat) (δ : List En) : bmp b (bmp a δ) = bmp (a + b) δ := by
  unfold bmp
  rw [List.map_map]
  congr 1
  funext e
  exact bmp1_add a b e
theorem bmp_get (c : Nat) (δ : List En) (i : Nat) : (bmp c δ)[i]? = (δ[i]?).map (bmp1 c) := by unfold bmp; rw [List.getElem?_map]
theorem bmp_own {c : Nat} {δ : List En} {i : Nat} {ds : List Da} (h : (bmp c δ)[i]? = some (.own ds)) : δ[i]? = some (.own ds) := by
  rw [bmp_get] at h
  cases e : δ[i]? with
  | none => rw [e] at h; cases h
  | some en => rw [e] at h; cases en <;> first | (cases h; rfl) | cases h
theorem bmp_rep {c : Nat} {δ : List En} {i : Nat} {d : Da} (h : (bmp c δ)[i]? = some (.rep d)) : δ[i]? = some (.rep d) := by
  rw [bmp_get] at h
  cases e : δ[i]? with
  | none => rw [e] at h; cases h
  | some en => rw [e] at h; cases en <;> first | (cases h; rfl) | cases h
theorem bmp_box {c : Nat} {δ : List En} {i n : Nat} (h : (bmp c δ)[i]? = some (.box n)) : ∃ m, n = m + c ∧ δ[i]? = some (.box m) := by
  rw [bmp_get] at h
  cases e : δ[i]? with
  | none => rw [e] at h; cases h
  | some en => rw [e] at h; cases en <;> first | (cases h; exact ⟨_, rfl, rfl⟩) | cases h
theorem BoxV.mono {c0 c1 c2 : Int} {n m : Nat} (h : BoxV c0 c1 c2 n) (l : n ≤ m) : BoxV c0 c1 c2 m := by
  obtain ⟨a, b, c, d, e⟩ := h
  exact ⟨a, b, c, d, by omega⟩
/-- at most c draws from the box -/
def BoxStep (bx : Option Addr) (H H' : Hp) (c : Nat) : Prop := ∀ b c0 c1 c2 n, bx = some b → H b = some (.lst [.int c0, .int c1, .int c2]) → BoxV c0 c1 c2 n → ∃ e0 e1 e2, H' b = some (.lst [.int e0, .int e1, .int e2]) ∧ BoxV e0 e1 e2 (n + c)
theorem BoxStep.trans {bx : Option Addr} {H H1 H2 : Hp} {a b : Nat} (x : BoxStep bx H H1 a) (y : BoxStep bx H1 H2 b) : BoxStep bx H H2 (a + b) := fun p c0 c1 c2 n e h v => by
  obtain ⟨d0, d1, d2, h1, v1⟩ := x p c0 c1 c2 n e h v
  obtain ⟨e0, e1, e2, h2, v2⟩ := y p d0 d1 d2 _ e h1 v1
  exact ⟨e0, e1, e2, h2, by rw [← Nat.add_assoc]; exact v2⟩
theorem BoxStep.mono {bx : Option Addr} {H H' : Hp} {a b : Nat} (x : BoxStep bx H H' a) (l : a ≤ b) : BoxStep bx H H' b := fun p c0 c1 c2 n e h v => by
  obtain ⟨e0, e1, e2, h2, v2⟩ := x p c0 c1 c2 n e h v
  exact ⟨e0, e1, e2, h2, v2.mono (Nat.add_le_add_left l n)⟩
theorem Ext.boxStep {bx : Option Addr} {G H G' H' : Hp} (x : Ext none G H G' H') (c : Nat) : BoxStep bx H H' c := fun p c0 c1 c2 n e h v =>
  ⟨c0, c1, c2, x.hh p _ (fun z => nomatch z) h, v.mono (Nat.le_add_right _ _)⟩
theorem BoxStep.upd {bx : Option Addr} {H H' : Hp} {c : Nat} {p : Addr} {o : HO} (x : BoxStep bx H H' c) (h : bx ≠ some p) : BoxStep bx H (L2.upd H' p o) c := fun b c0 c1 c2 n e hb v => by
  obtain ⟨e0, e1, e2, h2, v2⟩ := x b c0 c1 c2 n e hb v
  exact ⟨e0, e1, e2, by rw [upd_ne (fun z => h (by rw [e, z]))]; exact h2, v2⟩
/-- the environment behind a step that draws: the slots as they were, the box as it is now -/
theorem ER.step {K : PySem.W.Frag} {bp bx : Option Addr} {He G H G' H' : Hp} {σ : L2.St} {δ : List En} {c : Nat} (E : ER K bp He bx G H σ δ) (x : Ext bx G H G' H')
    (hb : BoxStep bx H H' c) : ER K bp He bx G' H' σ (bmp c δ) := by
  refine ⟨by unfold bmp; rw [List.length_map]; exact E.len, fun i en h => ?_, fun i j ds es l ne h1 h2 h3 => E.sep i j ds es l ne (bmp_own h1) (bmp_own h2) h3, E.bxo, fun b e => ⟨x.hn b (E.bxt b e).1, (x.gs b (E.bxt b e).1).trans (E.bxt b e).2⟩, E.bxp⟩
  cases en with
  | any => trivial
  | rep d =>
    obtain ⟨v, e, r⟩ := E.at_ i _ (bmp_rep h)
    exact ⟨v, e, r.mono x.gg⟩
  | own ds =>
    obtain ⟨l, vs, e, a, b, c, r, n⟩ := E.at_ i _ (bmp_own h)
    have hn : H l ≠ none := by rw [c]; exact fun z => nomatch z
    exact ⟨l, vs, e, a, (x.gs l hn).trans b, x.hh l _ n c, r.mono x.gg, n⟩
  | box n =>
    obtain ⟨m, rfl, h'⟩ := bmp_box h
    obtain ⟨b, c0, c1, c2, e, e2, g, cc, r⟩ := E.at_ i _ h'
    have hn : H b ≠ none := by rw [cc]; exact fun z => nomatch z
    obtain ⟨f0, f1, f2, q1, q2⟩ := hb b c0 c1 c2 m e2 cc r
    exact ⟨b, f0, f1, f2, e, e2, (x.gs b hn).trans g, q1, q2⟩

section
variable (K : PySem.W.Frag)
/-- the expression denotes d -/
def Evd (te : TE) (δ : List En) (d : Da) : Prop := ∀ bp He bx σ G H, Same G H → ER K bp He bx G H σ δ → ∀ Q : VK, (∀ v G' H', Ext none G H G' H' → Rep K G' v d → Q v H') → te σ H Q
/-- .. a new list, not known as yet -/
def EvO (te : TE) (δ : List En) (ds : List Da) : Prop := ∀ bp He bx σ G H, Same G H → ER K bp He bx G H σ δ → ∀ Q : VK,
  (∀ l vs G' H', Ext none G H G' H' → H l = none → G' l = none → H' l = some (.lst vs) → Reps K G' vs ds → Q (.ref l) H') → te σ H Q
def EvdA (ta : TA) (δ : List En) (ds : List Da) : Prop := ∀ bp He bx σ G H, Same G H → ER K bp He bx G H σ δ → ∀ Q : List V → Hp → Prop, (∀ vs G' H', Ext none G H G' H' → Reps K G' vs ds → Q vs H') → ta σ H Q
def Tvd (tt : TT) (δ : List En) (b : Bool) : Prop := ∀ bp He bx σ G H, Same G H → ER K bp He bx G H σ δ → ∀ Q : Bool → Hp → Prop, (∀ G' H', Ext none G H G' H' → Q b H') → tt σ H Q
def Ovd (to : TO) (δ : List En) (o : Option Int) : Prop := ∀ bp He bx σ G H, Same G H → ER K bp He bx G H σ δ → ∀ Q : Option Int → Hp → Prop, (∀ G' H', Ext none G H G' H' → Q o H') → to σ H Q
/-- with the box drawn from: some datum of P, the environment behind it -/
def Eve (te : TE) (δ : List En) (c : Nat) (P : Da → Prop) : Prop := ∀ bp He bx σ G H, Same G H → ER K bp He bx G H σ δ → ∀ Q : VK,
  (∀ v d G' H', Ext bx G H G' H' → BoxStep bx H H' c → Rep K G' v d → P d → Q v H') → te σ H Q
def EveO (te : TE) (δ : List En) (c : Nat) (P : List Da → Prop) : Prop := ∀ bp He bx σ G H, Same G H → ER K bp He bx G H σ δ → ∀ Q : VK,
  (∀ l vs ds G' H', bx ≠ some l → Ext bx G H G' H' → BoxStep bx H H' c → H l = none → G' l = none → H' l = some (.lst vs) → Reps K G' vs ds → P ds → Q (.ref l) H') → te σ H Q
def EveA (ta : TA) (δ : List En) (c : Nat) (P : List Da → Prop) : Prop := ∀ bp He bx σ G H, Same G H → ER K bp He bx G H σ δ → ∀ Q : List V → Hp → Prop,
  (∀ vs ds G' H', Ext bx G H G' H' → BoxStep bx H H' c → Reps K G' vs ds → P ds → Q vs H') → ta σ H Q
def Tve (tt : TT) (δ : List En) (c : Nat) (P : Bool → Prop) : Prop := ∀ bp He bx σ G H, Same G H → ER K bp He bx G H σ δ → ∀ Q : Bool → Hp → Prop,
  (∀ b G' H', Ext bx G H G' H' → BoxStep bx H H' c → P b → Q b H') → tt σ H Q
/-- operations on values -/
def Op2 (r : R2) (d1 d2 d : Da) : Prop := ∀ v1 v2 G H, Same G H → Rep K G v1 d1 → Rep K G v2 d2 → ∀ Q : VK, (∀ v G' H', Ext none G H G' H' → Rep K G' v d → Q v H') → r v1 v2 H Q
def Op2O (r : R2) (d1 d2 : Da) (ds : List Da) : Prop := ∀ v1 v2 G H, Same G H → Rep K G v1 d1 → Rep K G v2 d2 → ∀ Q : VK,
  (∀ l vs G' H', Ext none G H G' H' → H l = none → G' l = none → H' l = some (.lst vs) → Reps K G' vs ds → Q (.ref l) H') → r v1 v2 H Q
def Op1 (r : V → Hp → VK → Prop) (d1 d : Da) : Prop := ∀ v1 G H, Same G H → Rep K G v1 d1 → ∀ Q : VK, (∀ v G' H', Ext none G H G' H' → Rep K G' v d → Q v H') → r v1 H Q
def Opn (r : List V → Hp → VK → Prop) (es : List Da) (d : Da) : Prop := ∀ vs G H, Same G H → Reps K G vs es → ∀ Q : VK, (∀ v G' H', Ext none G H G' H' → Rep K G' v d → Q v H') → r vs H Q
def OpnO (r : List V → Hp → VK → Prop) (es : List Da) (ds : List Da) : Prop := ∀ vs G H, Same G H → Reps K G vs es → ∀ Q : VK,
  (∀ l vs G' H', Ext none G H G' H' → H l = none → G' l = none → H' l = some (.lst vs) → Reps K G' vs ds → Q (.ref l) H') → r vs H Q
/-- a method on values -/
def Opm (r : V → List V → Hp → VK → Prop) (d0 : Da) (es : List Da) (d : Da) : Prop := ∀ v vs G H, Same G H → Rep K G v d0 → Reps K G vs es → ∀ Q : VK, (∀ v G' H', Ext none G H G' H' → Rep K G' v d → Q v H') → r v vs H Q
end

section
variable {K : PySem.W.Frag} {δ δ' δ1 δ2 : List En} {ta tb te tx : TE} {t u : TT} {d d1 d2 : Da} {ds es : List Da} {r : R2}

theorem EvO.frz (h : EvO K te δ ds) : Evd K te δ (.lst ds) := fun bp He bx σ G H le E Q q =>
  h bp He bx σ G H le E Q fun l vs G' H' x n1 n2 n3 rr => q _ _ _ (x.known n1 n2 n3) (.lst upd_same (rr.mono (same_known n2)))
theorem Evd.eve (h : Evd K te δ d) : Eve K te δ 0 (· = d) := fun bp He bx σ G H le E Q q =>
  h bp He bx σ G H le E Q fun v G' H' x r => q v d G' H' x.none_to (x.boxStep 0) r rfl
theorem EvO.eve (h : EvO K te δ ds) : EveO K te δ 0 (· = ds) := fun bp He bx σ G H le E Q q =>
  h bp He bx σ G H le E Q fun l vs G' H' x n1 n2 n3 r => q l vs ds G' H' (E.notBox n1) x.none_to (x.boxStep 0) n1 n2 n3 r rfl
theorem EvdA.eve {ta : TA} (h : EvdA K ta δ ds) : EveA K ta δ 0 (· = ds) := fun bp He bx σ G H le E Q q =>
  h bp He bx σ G H le E Q fun v G' H' x r => q v ds G' H' x.none_to (x.boxStep 0) r rfl
theorem Tvd.eve {b : Bool} (h : Tvd K t δ b) : Tve K t δ 0 (· = b) := fun bp He bx σ G H le E Q q =>
  h bp He bx σ G H le E Q fun G' H' x => q b G' H' x.none_to (x.boxStep 0) rfl
theorem Eve.mono {c : Nat} {P P' : Da → Prop} (h : Eve K te δ c P) (k : ∀ d, P d → P' d) : Eve K te δ c P' := fun bp He bx σ G H le E Q q =>
  h bp He bx σ G H le E Q fun v d G' H' x E' r p => q v d G' H' x E' r (k d p)
theorem EveO.mono {c : Nat} {P P' : List Da → Prop} (h : EveO K te δ c P) (k : ∀ d, P d → P' d) : EveO K te δ c P' := fun bp He bx σ G H le E Q q =>
  h bp He bx σ G H le E Q fun l vs ds G' H' nb x E' n1 n2 n3 r p => q l vs ds G' H' nb x E' n1 n2 n3 r (k ds p)
theorem Evd.is (h : Evd K te δ d) (e : d = d1) : Evd K te δ d1 := e ▸ h
theorem EvO.is (h : EvO K te δ ds) (e : ds = es) : EvO K te δ es := e ▸ h
theorem Tvd.is {b c : Bool} (h : Tvd K t δ b) (e : b = c) : Tvd K t δ c := e ▸ h
theorem EveO.frz {c : Nat} {P : List Da → Prop} (h : EveO K te δ c P) : Eve K te δ c (fun d => ∃ ds, d = .lst ds ∧ P ds) := fun bp He bx σ G H le E Q q =>
  h bp He bx σ G H le E Q fun l vs ds G' H' nb x b n1 n2 n3 r p => q _ (.lst ds) _ _ (x.known n1 n2 n3) b (.lst upd_same (r.mono (same_known n2))) ⟨ds, rfl, p⟩
theorem Eve.le {c c' : Nat} {P : Da → Prop} (h : Eve K te δ c P) (l : c ≤ c') : Eve K te δ c' P := fun bp He bx σ G H le E Q q =>
  h bp He bx σ G H le E Q fun v d G' H' x b r p => q v d G' H' x (b.mono l) r p
theorem EveO.le {c c' : Nat} {P : List Da → Prop} (h : EveO K te δ c P) (l : c ≤ c') : EveO K te δ c' P := fun bp He bx σ G H le E Q q =>
  h bp He bx σ G H le E Q fun v vs ds G' H' nb x b n1 n2 n3 r p => q v vs ds G' H' nb x (b.mono l) n1 n2 n3 r p
end
end R
set_option maxHeartbeats 4123456
/-! R2: pure expressions. -/
namespace R
open PySem L2
section
variable {K : PySem.W.Frag} {δ δ1 : List En} {ta tb tc te tx : TE} {t u : TT} {d d0 d1 d2 d3 : Da} {ds es : List Da} {r r' : R2}

theorem evd_var {i : Nat} (h : δ[i]? = some (.rep d)) : Evd K (tVar i) δ d := fun bp He bx σ G H le E Q q => by
  obtain ⟨v, e, r⟩ := E.rep h
  exact ⟨v, e, q v G H (Ext.refl le) r⟩
theorem evd_int {i : Int} : Evd K (tC (.int i)) δ (.int i) := fun bp He bx σ G H le E Q q => q _ G H (Ext.refl le) (.int i)
theorem evd_str {x : Str} : Evd K (tC (.str x)) δ (.str x) := fun bp He bx σ G H le E Q q => q _ G H (Ext.refl le) (.str x)
theorem evd_bl {b : Bool} : Evd K (tC (.bl b)) δ (.bl b) := fun bp He bx σ G H le E Q q => q _ G H (Ext.refl le) (.bl b)
theorem evd_non : Evd K (tC .non) δ .non := fun bp He bx σ G H le E Q q => q _ G H (Ext.refl le) .non
theorem evd_c {v : V} (h : ∀ G, Rep K G v d) : Evd K (tC v) δ d := fun bp He bx σ G H le E Q q => q _ G H (Ext.refl le) (h G)
theorem evd_op (ha : Evd K ta δ d1) (hb : Evd K tb δ d2) (hr : Op2 K r d1 d2 d) : Evd K (tOp r ta tb) δ d := fun bp He bx σ G H le E Q q =>
  ha bp He bx σ G H le E _ fun v1 G1 H1 x1 r1 => hb bp He bx σ G1 H1 x1.le (E.lift x1) _ fun v2 G2 H2 x2 r2 =>
    hr v1 v2 G2 H2 x2.le (r1.mono x2.gg) r2 Q fun v G3 H3 x3 r3 => q v G3 H3 ((x1.trans x2).trans x3) r3
theorem evo_op (ha : Evd K ta δ d1) (hb : Evd K tb δ d2) (hr : Op2O K r d1 d2 ds) : EvO K (tOp r ta tb) δ ds := fun bp He bx σ G H le E Q q =>
  ha bp He bx σ G H le E _ fun v1 G1 H1 x1 r1 => hb bp He bx σ G1 H1 x1.le (E.lift x1) _ fun v2 G2 H2 x2 r2 =>
    hr v1 v2 G2 H2 x2.le (r1.mono x2.gg) r2 Q fun l vs G3 H3 x3 n1 n2 n3 r3 => by
      have n0 : H l = none := by
        cases e : H l with
        | none => rfl
        | some o =>
          have z := (x1.trans x2).hh l o (fun y => nomatch y) e
          rw [n1] at z; cases z
      exact q l vs G3 H3 ((x1.trans x2).trans x3) n0 n2 n3 r3
theorem Ext.free {G H G' H' : Hp} {l : Addr} (x : Ext none G H G' H') (h : H' l = none) : H l = none := by
  cases e : H l with
  | none => rfl
  | some o =>
    have z := x.hh l o (fun y => nomatch y) e
    rw [h] at z; cases z
theorem evd_un {r : V → Hp → VK → Prop} (ha : Evd K ta δ d1) (hr : Op1 K r d1 d) : Evd K (tUn r ta) δ d := fun bp He bx σ G H le E Q q =>
  ha bp He bx σ G H le E _ fun v1 G1 H1 x1 r1 => hr v1 G1 H1 x1.le r1 Q fun v G3 H3 x3 r3 => q v G3 H3 (x1.trans x3) r3
theorem eva_nil : EvdA K tNil δ [] := fun bp He bx σ G H le E Q q => q _ G H (Ext.refl le) .nil
theorem eva_cons {tr : TA} (h : Evd K ta δ d) (hr : EvdA K tr δ ds) : EvdA K (tCons ta tr) δ (d :: ds) := fun bp He bx σ G H le E Q q =>
  h bp He bx σ G H le E _ fun v1 G1 H1 x1 r1 => hr bp He bx σ G1 H1 x1.le (E.lift x1) _ fun vs G2 H2 x2 r2 => q _ G2 H2 (x1.trans x2) (.cons (r1.mono x2.gg) r2)
theorem evd_cb {r : List V → Hp → VK → Prop} {ta : TA} (ha : EvdA K ta δ es) (hr : Opn K r es d) : Evd K (tCB r ta) δ d := fun bp He bx σ G H le E Q q =>
  ha bp He bx σ G H le E _ fun vs G1 H1 x1 r1 => hr vs G1 H1 x1.le r1 Q fun v G3 H3 x3 r3 => q v G3 H3 (x1.trans x3) r3
theorem evo_cb {r : List V → Hp → VK → Prop} {ta : TA} (ha : EvdA K ta δ es) (hr : OpnO K r es ds) : EvO K (tCB r ta) δ ds := fun bp He bx σ G H le E Q q =>
  ha bp He bx σ G H le E _ fun vs G1 H1 x1 r1 => hr vs G1 H1 x1.le r1 Q fun l ws G3 H3 x3 n1 n2 n3 r3 => q l ws G3 H3 (x1.trans x3) (x1.free n1) n2 n3 r3
theorem len_line {n : Nat} (h : n ≤ 100000) : n ≤ sizeLine := Nat.le_trans h (by decide)
theorem len_lt {n : Nat} (h : n < 100000) : n < sizeLine := Nat.lt_of_lt_of_le h (by decide)
theorem evd_tup {ta : TA} (h : EvdA K ta δ ds) (hl : ds.length ≤ 100000) : Evd K (tTup ta) δ (.tup ds) := fun bp He bx σ G H le E Q q =>
  h bp He bx σ G H le E _ fun vs G1 H1 x1 r1 => ⟨by rw [r1.len]; exact len_line hl, fun p hp => q (.ref p) _ _ (x1.trans (Ext.new x1.le hp)) (.tup (SqT.of upd_same) (r1.mono (same_known (x1.le.free hp))))⟩
theorem evo_lst {ta : TA} (h : EvdA K ta δ ds) (hl : ds.length ≤ 100000) : EvO K (tLst ta) δ ds := fun bp He bx σ G H le E Q q =>
  h bp He bx σ G H le E _ fun vs G1 H1 x1 r1 => ⟨by rw [r1.len]; exact len_line hl, fun p hp => q p vs G1 _ (x1.trans (Ext.own x1.le hp)) (x1.free hp) (x1.le.free hp) upd_same r1⟩

/-! tests -/
theorem Rep.blI {G : Hp} {v : V} {b : Bool} (h : Rep K G v (.bl b)) : v = .bl b := by cases h; rfl
theorem Rep.intI {G : Hp} {v : V} {b : Int} (h : Rep K G v (.int b)) : v = .int b := by cases h; rfl
theorem Rep.strI {G : Hp} {v : V} {b : Str} (h : Rep K G v (.str b)) : v = .str b := by cases h; rfl
theorem Rep.nonI {G : Hp} {v : V} (h : Rep K G v .non) : v = .non := by cases h; rfl
theorem tvd_test {b : Bool} (h : Evd K te δ (.bl b)) : Tvd K (tTest te) δ b := fun bp He bx σ G H le E Q q =>
  h bp He bx σ G H le E _ fun v G1 H1 x1 r1 => ⟨b, r1.blI, q G1 H1 x1⟩
theorem tvd_B {b : Bool} (h : Evd K te δ (.bl b)) : Tvd K (tB te) δ b := fun bp He bx σ G H le E Q q =>
  h bp He bx σ G H le E _ fun v G1 H1 x1 r1 => ⟨b, r1.blI, q G1 H1 x1⟩
theorem tvd_and {a b : Bool} (h1 : Tvd K t δ a) (h2 : a = true → Tvd K u δ b) : Tvd K (tAnd t u) δ (a && b) := fun bp He bx σ G H le E Q q =>
  h1 bp He bx σ G H le E _ fun G1 H1 x1 => by
    cases a with
    | true => exact iteT (h2 rfl bp He bx σ G1 H1 x1.le (E.lift x1) _ fun G2 H2 x2 => q G2 H2 (x1.trans x2))
    | false => exact iteF (q G1 H1 x1)
theorem tvd_or {a b : Bool} (h1 : Tvd K t δ a) (h2 : a = false → Tvd K u δ b) : Tvd K (tOr t u) δ (a || b) := fun bp He bx σ G H le E Q q =>
  h1 bp He bx σ G H le E _ fun G1 H1 x1 => by
    cases a with
    | true => exact iteT (q G1 H1 x1)
    | false => exact iteF (h2 rfl bp He bx σ G1 H1 x1.le (E.lift x1) _ fun G2 H2 x2 => q G2 H2 (x1.trans x2))
theorem tvd_not {a : Bool} (h1 : Tvd K t δ a) : Tvd K (tNot t) δ (!a) := fun bp He bx σ G H le E Q q => h1 bp He bx σ G H le E _ fun G1 H1 x1 => q G1 H1 x1
theorem tvd_yes : Tvd K tYes δ true := fun bp He bx σ G H le E Q q => q G H (Ext.refl le)
theorem evd_andV {a : Bool} {d : Da} (h1 : Evd K ta δ (.bl a)) (h2 : a = true → Evd K tb δ d) (h3 : a = false → d = .bl false) : Evd K (tAndV ta tb) δ d := fun bp He bx σ G H le E Q q =>
  h1 bp He bx σ G H le E _ fun v G1 H1 x1 r1 => ⟨a, r1.blI, by
    cases a with
    | true => exact iteT (h2 rfl bp He bx σ G1 H1 x1.le (E.lift x1) _ fun v G2 H2 x2 r2 => q v G2 H2 (x1.trans x2) r2)
    | false => rw [h3 rfl] at q; exact iteF (q _ G1 H1 x1 (.bl false))⟩
theorem evd_and {a b : Bool} (h1 : Evd K ta δ (.bl a)) (h2 : a = true → Evd K tb δ (.bl b)) : Evd K (tAndV ta tb) δ (.bl (a && b)) :=
  evd_andV h1 (fun e => by subst e; exact h2 rfl) (fun e => by subst e; rfl)
theorem evd_orV {a : Bool} {d : Da} (h1 : Evd K ta δ (.bl a)) (h2 : a = false → Evd K tb δ d) (h3 : a = true → d = .bl true) : Evd K (tOrV ta tb) δ d := fun bp He bx σ G H le E Q q =>
  h1 bp He bx σ G H le E _ fun v G1 H1 x1 r1 => ⟨a, r1.blI, by
    cases a with
    | false => exact iteF (h2 rfl bp He bx σ G1 H1 x1.le (E.lift x1) _ fun v G2 H2 x2 r2 => q v G2 H2 (x1.trans x2) r2)
    | true => rw [h3 rfl] at q; exact iteT (q _ G1 H1 x1 (.bl true))⟩
theorem evd_or {a b : Bool} (h1 : Evd K ta δ (.bl a)) (h2 : a = false → Evd K tb δ (.bl b)) : Evd K (tOrV ta tb) δ (.bl (a || b)) :=
  evd_orV h1 (fun e => by subst e; exact h2 rfl) (fun e => by subst e; rfl)
theorem evd_notV {a : Bool} (h1 : Evd K ta δ (.bl a)) : Evd K (tNotV ta) δ (.bl (!a)) := fun bp He bx σ G H le E Q q =>
  h1 bp He bx σ G H le E _ fun v G1 H1 x1 r1 => ⟨a, r1.blI, q _ G1 H1 x1 (.bl _)⟩
theorem evd_if {b : Bool} (h : Tvd K t δ b) (h1 : b = true → Evd K ta δ d) (h2 : b = false → Evd K tb δ d) : Evd K (tIf t ta tb) δ d := fun bp He bx σ G H le E Q q =>
  h bp He bx σ G H le E _ fun G1 H1 x1 => by
    cases b with
    | true => exact iteT (h1 rfl bp He bx σ G1 H1 x1.le (E.lift x1) _ fun v G2 H2 x2 r2 => q v G2 H2 (x1.trans x2) r2)
    | false => exact iteF (h2 rfl bp He bx σ G1 H1 x1.le (E.lift x1) _ fun v G2 H2 x2 r2 => q v G2 H2 (x1.trans x2) r2)
theorem evd_chain {a b : Bool} (h1 : Evd K ta δ d1) (h2 : Evd K tb δ d2) (h3 : a = true → Evd K tc δ d3) (o1 : Op2 K r d1 d2 (.bl a)) (o2 : a = true → Op2 K r' d2 d3 (.bl b)) : Evd K (tChain r r' ta tb tc) δ (.bl (a && b)) :=
  fun bp He bx σ G H le E Q q => h1 bp He bx σ G H le E _ fun v1 G1 H1 x1 r1 => h2 bp He bx σ G1 H1 x1.le (E.lift x1) _ fun v2 G2 H2 x2 r2 =>
    o1 v1 v2 G2 H2 x2.le (r1.mono x2.gg) r2 _ fun v G3 H3 x3 r3 => ⟨a, r3.blI, by
      have x := (x1.trans x2).trans x3
      cases a with
      | true => exact iteT (h3 rfl bp He bx σ G3 H3 x3.le (E.lift x) _ fun v3 G4 H4 x4 r4 => o2 rfl v2 v3 G4 H4 x4.le (r2.mono (x3.trans x4).gg) r4 _ fun v G5 H5 x5 r5 => q v G5 H5 ((x.trans x4).trans x5) r5)
      | false => exact iteF (q _ G3 H3 x (.bl _))⟩

/-! ### operators -/
theorem op2_I0 {g : Int → Int → Int} {i j : Int} : Op2 K (rI0 fun i j => .int (g i j)) (.int i) (.int j) (.int (g i j)) := fun v1 v2 G H le r1 r2 Q q =>
  ⟨i, j, r1.intI, r2.intI, q _ G H (Ext.refl le) (.int _)⟩
theorem op2_B0 {g : Int → Int → Bool} {i j : Int} : Op2 K (rI0 fun i j => .bl (g i j)) (.int i) (.int j) (.bl (g i j)) := fun v1 v2 G H le r1 r2 Q q =>
  ⟨i, j, r1.intI, r2.intI, q _ G H (Ext.refl le) (.bl _)⟩
theorem op2_I {C : Int → Int → Prop} {g : Int → Int → Int} {i j : Int} (h : C i j) : Op2 K (rI C fun i j => .int (g i j)) (.int i) (.int j) (.int (g i j)) := fun v1 v2 G H le r1 r2 Q q =>
  ⟨i, j, r1.intI, r2.intI, h, q _ G H (Ext.refl le) (.int _)⟩
theorem op1_I {g : Int → Int} {i : Int} : Op1 K (rU fun i => .int (g i)) (.int i) (.int (g i)) := fun v1 G H le r1 Q q => ⟨i, r1.intI, q _ G H (Ext.refl le) (.int _)⟩
/-- flat data as values -/
def flatD : Da → Bool
  | .non => true | .bl _ => true | .int _ => true | .str _ => true | _ => false
def toV : Da → V
  | .non => .non | .bl b => .bl b | .int i => .int i | .str x => .str x | _ => .non
theorem Rep.flat {G : Hp} {v : V} {d : Da} (h : Rep K G v d) (f : flatD d = true) : v = toV d := by
  cases h <;> first | rfl | exact absurd f (by decide) | (cases f)
theorem Rep.of_flat {G G' : Hp} {v : V} {d : Da} (h : Rep K G v d) (f : flatD d = true) : Rep K G' v d := by
  cases h <;> first | (cases f; done) | exact .non | exact .bl _ | exact .int _ | exact .str _
theorem rep_toV {G : Hp} {d : Da} (f : flatD d = true) : Rep K G (toV d) d := by
  cases d <;> first | (cases f; done) | exact .non | exact .bl _ | exact .int _ | exact .str _
theorem Reps.flat {G : Hp} : ∀ {vs : List V} {ds : List Da}, Reps K G vs ds → ds.all flatD = true → vs = ds.map toV
  | _, _, .nil, _ => rfl
  | _, _, .cons h r, f => by
    rw [List.all_cons, Bool.and_eq_true] at f
    rw [List.map_cons, ← h.flat f.1, ← r.flat f.2]
theorem op2_eqI {i j : Int} : Op2 K rEq (.int i) (.int j) (.bl (decide (i = j))) := fun v1 v2 G H le r1 r2 Q q => by
  rw [r1.intI, r2.intI]
  refine ⟨rfl, ?_⟩
  rw [show decide (V.int i = V.int j) = decide (i = j) from decide_eq_decide.mpr ⟨V.int.inj, congrArg _⟩]
  exact q _ G H (Ext.refl le) (.bl _)
theorem op2_neI {i j : Int} : Op2 K rNe (.int i) (.int j) (.bl (!decide (i = j))) := fun v1 v2 G H le r1 r2 Q q => by
  rw [r1.intI, r2.intI]
  refine ⟨rfl, ?_⟩
  rw [show decide (V.int i = V.int j) = decide (i = j) from decide_eq_decide.mpr ⟨V.int.inj, congrArg _⟩]
  exact q _ G H (Ext.refl le) (.bl _)
theorem op2_eqS {x y : Str} : Op2 K rEq (.str x) (.str y) (.bl (decide (x = y))) := fun v1 v2 G H le r1 r2 Q q => by
  rw [r1.strI, r2.strI]
  refine ⟨rfl, ?_⟩
  rw [show decide (V.str x = V.str y) = decide (x = y) from decide_eq_decide.mpr ⟨V.str.inj, congrArg _⟩]
  exact q _ G H (Ext.refl le) (.bl _)
theorem op2_neS {x y : Str} : Op2 K rNe (.str x) (.str y) (.bl (!decide (x = y))) := fun v1 v2 G H le r1 r2 Q q => by
  rw [r1.strI, r2.strI]
  refine ⟨rfl, ?_⟩
  rw [show decide (V.str x = V.str y) = decide (x = y) from decide_eq_decide.mpr ⟨V.str.inj, congrArg _⟩]
  exact q _ G H (Ext.refl le) (.bl _)
theorem op2_eqB {x y : Bool} : Op2 K rEq (.bl x) (.bl y) (.bl (decide (x = y))) := fun v1 v2 G H le r1 r2 Q q => by
  rw [r1.blI, r2.blI]
  refine ⟨rfl, ?_⟩
  rw [show decide (V.bl x = V.bl y) = decide (x = y) from decide_eq_decide.mpr ⟨V.bl.inj, congrArg _⟩]
  exact q _ G H (Ext.refl le) (.bl _)
theorem op2_neB {x y : Bool} : Op2 K rNe (.bl x) (.bl y) (.bl (!decide (x = y))) := fun v1 v2 G H le r1 r2 Q q => by
  rw [r1.blI, r2.blI]
  refine ⟨rfl, ?_⟩
  rw [show decide (V.bl x = V.bl y) = decide (x = y) from decide_eq_decide.mpr ⟨V.bl.inj, congrArg _⟩]
  exact q _ G H (Ext.refl le) (.bl _)
/-- in, not in: flat things in a list or a tuple of flat things -/
theorem all_flatV : ∀ {ds : List Da}, ds.all flatD = true → (ds.map toV).all flatV = true
  | [], _ => rfl
  | d :: ds, f => by
    rw [List.all_cons, Bool.and_eq_true] at f
    rw [List.map_cons, List.all_cons, Bool.and_eq_true]
    exact ⟨by cases d <;> first | rfl | (cases f.1), all_flatV f.2⟩
theorem flatV_toV {d : Da} (f : flatD d = true) : flatV (toV d) = true := by cases d <;> first | rfl | (cases f)
def inD (d : Da) (ds : List Da) : Bool := inV (toV d) (ds.map toV)
theorem op2_inL {neg : Bool} (f1 : flatD d = true) (f2 : ds.all flatD = true) : Op2 K (rIn K neg) d (.lst ds) (.bl (if neg then !inD d ds else inD d ds)) := fun v1 v2 G H le r1 r2 Q q => by
  cases r2 with
  | lst h rs =>
    have e := rs.flat f2
    subst e
    rw [r1.flat f1]
    exact ⟨_, _, rfl, .inl (SqL.of (le _ _ h)), flatV_toV f1, all_flatV f2, q _ G H (Ext.refl le) (.bl _)⟩
theorem op2_inT {neg : Bool} (f1 : flatD d = true) (f2 : ds.all flatD = true) : Op2 K (rIn K neg) d (.tup ds) (.bl (if neg then !inD d ds else inD d ds)) := fun v1 v2 G H le r1 r2 Q q => by
  cases r2 with
  | tup h rs =>
    have e := rs.flat f2
    subst e
    rw [r1.flat f1]
    exact ⟨_, _, rfl, .inr (sqT_same le h), flatV_toV f1, all_flatV f2, q _ G H (Ext.refl le) (.bl _)⟩
theorem inD_int (i : Int) (ns : List Int) : inD (.int i) (ns.map Da.int) = decide (i ∈ ns) := by
  unfold inD inV
  induction ns with
  | nil => rfl
  | cons n ns ih =>
    rw [List.map_cons, List.map_cons, List.any_cons, ih]
    show (decide (n = i) || _) = _
    by_cases h : n = i
    · subst h; simp
    · simp [h, Ne.symm h, eq_comm]
theorem inD_str (i : Str) (ns : List Str) : inD (.str i) (ns.map Da.str) = decide (i ∈ ns) := by
  unfold inD inV
  induction ns with
  | nil => rfl
  | cons n ns ih =>
    rw [List.map_cons, List.map_cons, List.any_cons, ih]
    show (decide (n = i) || _) = _
    by_cases h : n = i
    · subst h; simp
    · simp [h, Ne.symm h, eq_comm]
theorem flat_ints (ns : List Int) : (ns.map Da.int).all flatD = true := by rw [List.all_map]; exact List.all_eq_true.mpr fun _ _ => rfl
theorem flat_strs (ns : List Str) : (ns.map Da.str).all flatD = true := by rw [List.all_map]; exact List.all_eq_true.mpr fun _ _ => rfl
theorem op2_inI {i : Int} {ns : List Int} : Op2 K (rIn K false) (.int i) (.lst (ns.map .int)) (.bl (decide (i ∈ ns))) := by
  have h := op2_inL (K := K) (neg := false) (d := .int i) rfl (flat_ints ns)
  rw [inD_int] at h
  exact h
theorem op2_inS {i : Str} {ns : List Str} : Op2 K (rIn K false) (.str i) (.lst (ns.map .str)) (.bl (decide (i ∈ ns))) := by
  have h := op2_inL (K := K) (neg := false) (d := .str i) rfl (flat_strs ns)
  rw [inD_str] at h
  exact h
/-- one sign in a text -/
theorem op2_inSign {c : Nat} {z : Str} : Op2 K rInS (.str ⟨#[c]⟩) (.str z) (.bl (decide (c ∈ z.cps.toList))) := fun v1 v2 G H le r1 r2 Q q => by
  rw [r1.strI, r2.strI]
  exact ⟨c, z, rfl, rfl, q _ G H (Ext.refl le) (.bl _)⟩
theorem atI_reps {G : Hp} {xs : List V} {i : Int} (h : Reps K G xs ds) (e : atI ds i = some d) : ∃ v, atI xs i = some v ∧ Rep K G v d := by
  unfold atI at e ⊢
  rw [h.len]
  cases q : ixN ds.length i with
  | none => rw [q] at e; cases e
  | some j =>
    rw [q] at e
    obtain ⟨v, h1, h2⟩ := h.get (i := j) e
    exact ⟨v, h1, h2⟩
theorem op2_ixL {i : Int} (e : atI ds i = some d) : Op2 K (rIxL K) (.lst ds) (.int i) d := fun v1 v2 G H le r1 r2 Q q => by
  cases r1 with
  | lst h rs =>
    obtain ⟨v, h1, h2⟩ := atI_reps rs e
    exact ⟨_, _, i, v, rfl, r2.intI, SqL.of (le _ _ h), h1, q v G H (Ext.refl le) h2⟩
theorem op2_ixC {i : Int} {ns : List Int} {n : Int} (e : atI ns i = some n) : Op2 K (rIxL K) (.scr ns) (.int i) (.int n) := fun v1 v2 G H le r1 r2 Q q => by
  cases r1 with
  | scr h =>
    refine ⟨_, _, i, .int n, rfl, r2.intI, le.seq h, ?_, q _ G H (Ext.refl le) (.int n)⟩
    unfold atI at e ⊢
    rw [List.length_map]
    cases q : ixN ns.length i with
    | none => rw [q] at e; cases e
    | some j => rw [q] at e; show (ns.map V.int)[j]? = _; rw [List.getElem?_map, show ns[j]? = some n from e]; rfl
theorem op2_ixT {i : Int} (e : atI ds i = some d) : Op2 K (rIxT K) (.tup ds) (.int i) d := fun v1 v2 G H le r1 r2 Q q => by
  cases r1 with
  | tup h rs =>
    obtain ⟨v, h1, h2⟩ := atI_reps rs e
    exact ⟨_, _, i, v, rfl, r2.intI, sqT_same le h, h1, q v G H (Ext.refl le) h2⟩
theorem op2_ixS {i : Int} {z : Str} {c : Nat} (hz : z.length ≤ 100000) (e : atI z.cps.toList i = some c) : Op2 K rIxS (.str z) (.int i) (.str ⟨#[c]⟩) := fun v1 v2 G H le r1 r2 Q q => by
  rw [r1.strI, r2.intI]
  exact ⟨z, i, c, rfl, rfl, len_line hz, e, q _ G H (Ext.refl le) (.str _)⟩
end
end R
set_option maxHeartbeats 4123456
/-! R3: what is walked, targets, comprehensions, statements. -/
namespace R
open PySem L2
/-- what turn i gives -/
def YD (K : PySem.W.Frag) (G1 : Hp) (ds : List Da) : Nat → Hp → V → Hp → Prop := fun i H2 x H3 => ∀ G2, Same G1 G2 → Same G2 H2 → ∃ G3 d, ds[i]? = some d ∧ Ext none G2 H2 G3 H3 ∧ Rep K G3 x d
def Srcd (K : PySem.W.Frag) (wi : TI) (δ : List En) (ds : List Da) : Prop := ∀ bp He bx σ G H, Same G H → ER K bp He bx G H σ δ → ∀ R : It → Hp → Prop,
  (∀ J G' H', Ext none G H G' H' → Walk J ds.length (fun H2 => Same G' H2) (YD K G' ds) → R J H') → wi σ H R
/-- a target takes d: the slots js are written -/
def Tgd (K : PySem.W.Frag) (g : TG) (js : List Nat) (d : Da) (δ δ' : List En) : Prop := ∀ bp He bx σ G H v, Same G H → ER K bp He bx G H σ δ → Rep K G v d → ∀ Q : L2.St → Hp → Prop,
  (∀ σ', ER K bp He bx G H σ' δ' → σ'.length = σ.length → (∀ k, k ∉ js → σ'[k]? = σ[k]?) → Q σ' H) → g v σ H Q
section
variable {K : PySem.W.Frag} {δ δ1 δ2 : List En} {ta tb tc te tx tl : TE} {t u : TT} {d d0 d1 d2 d3 : Da} {ds es : List Da} {g g1 g2 : TG}

theorem src_list (h : Evd K tl δ (.lst ds)) : Srcd K (iList K tl) δ ds := fun bp He bx σ G H le E R q =>
  h bp He bx σ G H le E _ fun v G1 H1 x1 r1 => by
    cases r1 with
    | @lst a xs _ hx rs =>
      refine ⟨a, rfl, ⟨xs, SqL.of (x1.le _ _ hx)⟩, q _ G1 H1 x1 ?_⟩
      rw [← rs.len]
      refine (walk_list (K := K) (a := a) (xs := xs)).mono (fun H2 s => SqL.of (s _ _ hx)) fun i H2 x H3 hi s y => ?_
      obtain ⟨rfl, e⟩ := y
      obtain ⟨d, e2, r2⟩ := rs.getV e
      exact fun G2 s1 s2 => ⟨G2, d, e2, Ext.refl s2, r2.mono s1⟩
theorem src_scr {ns : List Int} (h : Evd K tl δ (.scr ns)) : Srcd K (iList K tl) δ (ns.map .int) := fun bp He bx σ G H le E R q =>
  h bp He bx σ G H le E _ fun v G1 H1 x1 r1 => by
    cases r1 with
    | @scr a _ hx =>
      refine ⟨a, rfl, ⟨_, x1.le.seq hx⟩, q _ G1 H1 x1 ?_⟩
      have w := (walk_list (K := K) (a := a) (xs := ns.map V.int)).mono (G' := fun H2 => Same G1 H2) (Y' := YD K G1 (ns.map .int)) (fun H2 s => s.seq hx) fun i H2 x H3 hi s y => by
        obtain ⟨rfl, e⟩ := y
        rw [List.getElem?_map] at e
        cases e2 : ns[i]? with
        | none => rw [e2] at e; cases e
        | some n =>
          rw [e2] at e
          cases e
          exact fun G2 s1 s2 => ⟨G2, .int n, by rw [List.getElem?_map, e2]; rfl, Ext.refl s2, .int n⟩
      rw [List.length_map] at w ⊢
      exact w
theorem src_tup (h : Evd K tl δ (.tup ds)) : Srcd K (iTup K tl) δ ds := fun bp He bx σ G H le E R q =>
  h bp He bx σ G H le E _ fun v G1 H1 x1 r1 => by
    cases r1 with
    | @tup a xs _ hx rs =>
      refine ⟨a, rfl, ⟨xs, sqT_same x1.le hx⟩, q _ G1 H1 x1 ?_⟩
      rw [← rs.len]
      refine (walk_tup (K := K) (a := a) (xs := xs)).mono (fun H2 s => sqT_same s hx) fun i H2 x H3 hi s y => ?_
      obtain ⟨rfl, e⟩ := y
      obtain ⟨d, e2, r2⟩ := rs.getV e
      exact fun G2 s1 s2 => ⟨G2, d, e2, Ext.refl s2, r2.mono s1⟩
/-- lo, lo + 1, .. -/
def irng (lo : Int) (n : Nat) : List Da := (List.range n).map fun (i : Nat) => .int (lo + (i : Int))
theorem irng_len {lo : Int} {n : Nat} : (irng lo n).length = n := by unfold irng; rw [List.length_map, List.length_range]
theorem irng_get {lo : Int} {n i : Nat} (h : i < n) : (irng lo n)[i]? = some (.int (lo + (i : Int))) := by
  unfold irng
  rw [List.getElem?_map, List.getElem?_range h]; rfl
theorem irng_at {lo : Int} {n i : Nat} {d : Da} (h : (irng lo n)[i]? = some d) : i < n ∧ d = .int (lo + (i : Int)) := by
  have hi : i < n := by
    have := (List.getElem?_eq_some_iff.mp h).1
    rwa [irng_len] at this
  rw [irng_get hi] at h
  exact ⟨hi, (Option.some.inj h).symm⟩
theorem walk_irng {lo : Int} {n : Nat} {G1 : Hp} : Walk (Itr lo n) (irng lo n).length (fun H2 => Same G1 H2) (YD K G1 (irng lo n)) := by
  have w := (walk_range (lo := lo) (n := n)).mono (G' := fun H2 => Same G1 H2) (Y' := YD K G1 (irng lo n)) (fun _ _ => trivial) fun i H2 x H3 hi s y => by
    obtain ⟨rfl, rfl⟩ := y
    exact fun G2 s1 s2 => ⟨G2, _, irng_get hi, Ext.refl s2, .int _⟩
  rw [irng_len]
  exact w
theorem src_rng1 {ta : TA} {n : Int} (h : EvdA K ta δ [.int n]) (hn : n ≤ 2 ^ 61) (h0 : -(2 ^ 61) ≤ n) : Srcd K (iRng1 ta) δ (irng 0 n.toNat) := fun bp He bx σ G H le E R q =>
  h bp He bx σ G H le E _ fun vs G1 H1 x1 r1 => by
    cases r1 with
    | cons r r' =>
      cases r'
      rw [r.intI]
      exact ⟨n, rfl, by omega, by omega, q _ G1 H1 x1 walk_irng⟩
theorem src_rng2 {ta : TA} {m n : Int} (h : EvdA K ta δ [.int m, .int n]) (hn : n ≤ 2 ^ 61 ∧ -(2 ^ 61) ≤ n) (h0 : -(2 ^ 61) ≤ m ∧ m ≤ 2 ^ 61) : Srcd K (iRng2 ta) δ (irng m (n - m).toNat) := fun bp He bx σ G H le E R q =>
  h bp He bx σ G H le E _ fun vs G1 H1 x1 r1 => by
    cases r1 with
    | cons r r' =>
      cases r' with
      | cons r2 r' =>
        cases r'
        rw [r.intI, r2.intI]
        exact ⟨m, n, rfl, ⟨by omega, by omega, by omega, by omega⟩, q _ G1 H1 x1 walk_irng⟩
/-- the signs of a text -/
def signs (z : Str) : List Da := z.cps.toList.map fun c => .str ⟨#[c]⟩
theorem src_str {z : Str} (h : Evd K tl δ (.str z)) : Srcd K (iStr tl) δ (signs z) := fun bp He bx σ G H le E R q =>
  h bp He bx σ G H le E _ fun v G1 H1 x1 r1 => by
    rw [r1.strI]
    refine ⟨z, rfl, q _ G1 H1 x1 ?_⟩
    have w := (walk_str (z := z)).mono (G' := fun H2 => Same G1 H2) (Y' := YD K G1 (signs z)) (fun _ _ => trivial) fun i H2 x H3 hi s y => by
      obtain ⟨rfl, c, e, rfl⟩ := y
      refine fun G2 s1 s2 => ⟨G2, .str ⟨#[c]⟩, ?_, Ext.refl s2, .str _⟩
      unfold signs
      rw [List.getElem?_map, Array.getElem?_toList, e]; rfl
    have el : (signs z).length = z.cps.size := by unfold signs; rw [List.length_map, Array.length_toList]
    rw [el]
    exact w
/-- the keys, the values of a dict that stands still -/
def keyD : Key → Da
  | .inl i => .int i
  | .inr x => .str x
theorem RepK.get {G : Hp} : ∀ {kvs : List (Key × V)} {kds : List (Key × Da)} {i : Nat} {k : Key} {v : V}, RepK K G kvs kds → kvs[i]? = some (k, v) → ∃ d, kds[i]? = some (k, d) ∧ Rep K G v d
  | _, _, _, _, _, .nil, e => by simp at e
  | _, _, 0, _, _, .cons h _, e => by simp at e; obtain ⟨rfl, rfl⟩ := e; exact ⟨_, rfl, h⟩
  | _, _, i + 1, k, v, .cons _ r, e => by
    obtain ⟨d, h1, h2⟩ := RepK.get (i := i) r (by simpa using e)
    exact ⟨d, by simpa using h1, h2⟩
theorem RepK.len {G : Hp} : ∀ {kvs : List (Key × V)} {kds : List (Key × Da)}, RepK K G kvs kds → kvs.length = kds.length
  | _, _, .nil => rfl
  | _, _, .cons _ r => congrArg (· + 1) r.len
theorem rep_key {G : Hp} (k : Key) : Rep K G (kV k) (keyD k) := by cases k with | inl i => exact .int i | inr x => exact .str x
theorem src_keys {kds : List (Key × Da)} (h : Evd K tl δ (.dic kds)) : Srcd K (iKeys tl) δ (kds.map fun k => keyD k.1) := fun bp He bx σ G H le E R q =>
  h bp He bx σ G H le E _ fun v G1 H1 x1 r1 => by
    cases r1 with
    | @dic a o kvs _ hx rs =>
      refine ⟨a, o, rfl, .inl ⟨kvs, x1.le _ _ hx, q _ G1 H1 x1 ?_⟩⟩
      rw [List.length_map, ← rs.len]
      refine (walk_keys (d := a) (o := o) (kvs := kvs)).mono (fun H2 s => s _ _ hx) fun i H2 x H3 hi s y => ?_
      obtain ⟨rfl, k, v, e, rfl⟩ := y
      obtain ⟨d, e2, r2⟩ := rs.get e
      exact fun G2 s1 s2 => ⟨G2, keyD k, by rw [List.getElem?_map, e2]; rfl, Ext.refl s2, rep_key k⟩
theorem src_vals {kds : List (Key × Da)} (h : Evd K tl δ (.dic kds)) : Srcd K (iVals tl) δ (kds.map fun k => k.2) := fun bp He bx σ G H le E R q =>
  h bp He bx σ G H le E _ fun v G1 H1 x1 r1 => by
    cases r1 with
    | @dic a o kvs _ hx rs =>
      refine ⟨a, o, kvs, rfl, x1.le _ _ hx, q _ G1 H1 x1 ?_⟩
      rw [List.length_map, ← rs.len]
      refine (walk_values (d := a) (o := o) (kvs := kvs)).mono (fun H2 s => s _ _ hx) fun i H2 x H3 hi s y => ?_
      obtain ⟨rfl, k, e⟩ := y
      obtain ⟨d, e2, r2⟩ := rs.get e
      exact fun G2 s1 s2 => ⟨G2, d, by rw [List.getElem?_map, e2]; rfl, Ext.refl s2, r2.mono s1⟩

/-! targets -/
theorem tg_name {i : Nat} : Tgd K (gName i) [i] d δ (δ.set i (.rep d)) := fun bp He bx σ G H v le E r Q q =>
  q _ (E.set r) (by rw [List.length_set]) fun k hk => by rw [List.getElem?_set_ne (fun z => hk (by rw [z]; exact List.mem_singleton.mpr rfl))]
def Tgds (K : PySem.W.Frag) (g : TGs) (js : List Nat) (ds : List Da) (δ δ' : List En) : Prop := ∀ bp He bx σ G H vs, Same G H → ER K bp He bx G H σ δ → Reps K G vs ds → ∀ Q : L2.St → Hp → Prop,
  (∀ σ', ER K bp He bx G H σ' δ' → σ'.length = σ.length → (∀ k, k ∉ js → σ'[k]? = σ[k]?) → Q σ' H) → g vs σ H Q
theorem tgs_nil : Tgds K gNil [] [] δ δ := fun bp He bx σ G H vs le E r Q q => by
  cases r
  exact ⟨rfl, q σ E rfl fun _ _ => rfl⟩
theorem tgs_cons {gs : TGs} {js ks : List Nat} (h : Tgd K g js d δ δ1) (hr : Tgds K gs ks ds δ1 δ2) : Tgds K (gCons g gs) (js ++ ks) (d :: ds) δ δ2 := fun bp He bx σ G H vs le E r Q q => by
  cases r with
  | cons r1 r2 =>
    refine ⟨_, _, rfl, h bp He bx σ G H _ le E r1 _ fun σ1 E1 l1 k1 => hr bp He bx σ1 G H _ le E1 r2 _ fun σ2 E2 l2 k2 => q σ2 E2 (l2.trans l1) fun k hk => ?_⟩
    exact (k2 k fun z => hk (List.mem_append_right _ z)).trans (k1 k fun z => hk (List.mem_append_left _ z))
theorem tg_tup {gs : TGs} {js : List Nat} {n : Nat} (h : Tgds K gs js ds δ δ1) (hn : ds.length = n) : Tgd K (gTup K n gs) js (.tup ds) δ δ1 := fun bp He bx σ G H v le E r Q q => by
  cases r with
  | tup hx rs => exact ⟨_, _, rfl, sqT_same le hx, by rw [rs.len]; exact hn, h bp He bx σ G H _ le E rs _ q⟩
/-- two names at once -/
theorem tg_two {i j : Nat} : Tgd K (gTup K 2 (gCons (gName i) (gCons (gName j) gNil))) ([i] ++ ([j] ++ [])) (.tup [d1, d2]) δ ((δ.set i (.rep d1)).set j (.rep d2)) := tg_tup (tgs_cons tg_name (tgs_cons tg_name tgs_nil)) rfl

/-! ### comprehensions -/
def wipeE (δ : List En) : List Nat → List En
  | [] => δ
  | v :: vs => (wipeE δ vs).set v .any
theorem ER.setNone {bp bx : Option Addr} {He G H : Hp} {σ : L2.St} {i : Nat} (E : ER K bp He bx G H σ δ) : ER K bp He bx G H (σ.set i none) (δ.set i .any) := by
  refine ⟨by rw [List.length_set, List.length_set, E.len], fun j en h => ?_, fun j k ds es l ne h1 h2 h3 => ?_, E.bxo, E.bxt, E.bxp⟩
  · by_cases hj : i = j
    · subst hj
      by_cases hi : i < δ.length
      · rw [List.getElem?_set_self hi] at h
        cases h
        trivial
      · rw [List.getElem?_eq_none (by rw [List.length_set]; omega)] at h
        cases h
    · rw [List.getElem?_set_ne hj] at h ⊢
      exact E.at_ j en h
  · have n1 : i ≠ j := fun z => by
      subst z
      rw [List.getElem?_set] at h1
      split at h1 <;> simp_all
    have n2 : i ≠ k := fun z => by
      subst z
      rw [List.getElem?_set] at h2
      split at h2 <;> simp_all
    rw [List.getElem?_set_ne n1] at h1 h3
    rw [List.getElem?_set_ne n2] at h2 ⊢
    exact E.sep j k ds es l ne h1 h2 h3
theorem ER.wipe {bp bx : Option Addr} {He G H : Hp} {σ : L2.St} (E : ER K bp He bx G H σ δ) : ∀ vs : List Nat, ER K bp He bx G H (wipe σ vs) (wipeE δ vs)
  | [] => E
  | v :: vs => (ER.wipe E vs).setNone
theorem wipe_get {σ : L2.St} : ∀ {vs : List Nat} {k : Nat}, k ∉ vs → (wipe σ vs)[k]? = σ[k]?
  | [], _, _ => rfl
  | v :: vs, k, h => by
    show ((wipe σ vs).set v none)[k]? = _
    rw [List.getElem?_set_ne (fun z => h (by rw [z]; exact List.mem_cons_self))]
    exact wipe_get fun z => h (List.mem_cons_of_mem _ z)
theorem wipe_in {σ : L2.St} : ∀ {vs : List Nat} {k : Nat}, k ∈ vs → k < σ.length → (wipe σ vs)[k]? = some none
  | v :: vs, k, h, hl => by
    show ((wipe σ vs).set v none)[k]? = _
    by_cases e : v = k
    · subst e; rw [List.getElem?_set_self (by rw [wipe_length]; exact hl)]
    · rw [List.getElem?_set_ne e]
      rcases List.mem_cons.mp h with z | z
      · exact absurd z.symm e
      · exact wipe_in z hl
theorem wipe_eq {σ σ' : L2.St} {vs js : List Nat} (hj : ∀ j ∈ js, j ∈ vs) (hl : σ'.length = (wipe σ vs).length) (hk : ∀ k, k ∉ js → σ'[k]? = (wipe σ vs)[k]?) : wipe σ' vs = wipe σ vs := by
  rw [wipe_length] at hl
  refine List.ext_getElem? fun k => ?_
  by_cases h : k ∈ vs
  · by_cases hi : k < σ.length
    · rw [wipe_in h hi, wipe_in h (by rw [hl]; exact hi)]
    · rw [List.getElem?_eq_none (by rw [wipe_length, hl]; omega), List.getElem?_eq_none (by rw [wipe_length]; omega)]
  · rw [wipe_get h, wipe_get h, hk k fun z => h (hj k z), wipe_get h]
/-- [te for g in wi if t], nothing drawn -/
theorem evo_lc {wi : TI} {vs js : List Nat} {keep : Da → Bool} {f : Da → Da} (hs : Srcd K wi δ ds) (hj : ∀ j ∈ js, j ∈ vs) (hn : ds.length ≤ 50000)
    (h : ∀ (i : Nat) d, ds[i]? = some d → ∃ δ2, Tgd K g js d (wipeE δ vs) δ2 ∧ Tvd K t δ2 (keep d) ∧ (keep d = true → Evd K te δ2 (f d))) : EvO K (tLc wi g t te vs) δ ((ds.filter keep).map f) := by
  intro bp He bx σ G H le E Q q
  refine hs bp He bx σ G H le E _ fun J G1 H1 x1 w D hD => ?_
  have E1 := E.lift x1
  refine lc_it w (Pv := fun i H' => ∃ G' acc, Ext none G1 H1 G' H' ∧ G' D = none ∧ H' D = some (.lst acc) ∧ Reps K G' acc (((ds.take i).filter keep).map f))
    ⟨G1, [], Ext.own x1.le hD, x1.le.free hD, upd_same, .nil⟩ (fun i H' _ ⟨G', acc, x, _⟩ => x.gg.trans x.le) ?_ ?_
  · rintro i x H2 H3 hi ⟨G', acc, x2, n2, n3, r2⟩ y
    obtain ⟨G3, d, e, x3, r3⟩ := y G' x2.gg x2.le
    have x13 := x2.trans x3
    have hDn : H2 D ≠ none := by rw [n3]; exact fun z => nomatch z
    have n4 : G3 D = none := (x3.gs D hDn).trans n2
    have n5 : H3 D = some (.lst acc) := x3.hh D _ (fun z => nomatch z) n3
    obtain ⟨δ2, hg, ht, he⟩ := h i d e
    refine hg bp He bx (wipe σ vs) G3 H3 x x3.le ((E1.lift x13).wipe vs) r3 _ fun σ' E' l' k' => ⟨wipe_eq hj l' k', ?_⟩
    have et : (ds.take (i + 1)) = ds.take i ++ [d] := by rw [List.take_add_one, e]; rfl
    refine ht bp He bx σ' G3 H3 x3.le E' _ fun G4 H4 x4 => ?_
    have m5 : H3 D ≠ none := by rw [n5]; exact fun z => nomatch z
    cases hk : keep d with
    | true =>
      refine iteT (he hk bp He bx σ' G4 H4 x4.le (E'.lift x4) _ fun v G5 H5 x5 r5 => ?_)
      have x35 := x4.trans x5
      refine ⟨acc, x35.hh D _ (fun z => nomatch z) n5, len_lt ?_, G5, acc ++ [v], (x13.trans x35).mut hD ((x35.gs D m5).trans n4), (x35.gs D m5).trans n4, upd_same, ?_⟩
      · have hlen := r2.len
        rw [List.length_map] at hlen
        have := List.length_filter_le keep (ds.take i)
        have := List.length_take_le i ds
        have : (ds.take i).length ≤ ds.length := by rw [List.length_take]; omega
        omega
      · rw [et, List.filter_append, List.map_append, List.filter_cons, if_pos hk]
        exact (r2.mono (x3.trans x35).gg).app (.cons r5 .nil)
    | false =>
      refine iteF ⟨G4, acc, x13.trans x4, (x4.gs D m5).trans n4, x4.hh D _ (fun z => nomatch z) n5, ?_⟩
      rw [et, List.filter_append, List.map_append, List.filter_cons, if_neg (by rw [hk]; decide)]
      rw [List.filter_nil, List.map_nil, List.append_nil]
      exact r2.mono (x3.trans x4).gg
  · rintro H' ⟨G', acc, x2, n2, n3, r2⟩
    rw [List.take_length] at r2
    exact q D acc G' H' (x1.trans x2) (x1.free hD) n2 n3 r2
/-- .. without an if -/
theorem evo_map {wi : TI} {vs js : List Nat} {f : Da → Da} (hs : Srcd K wi δ ds) (hj : ∀ j ∈ js, j ∈ vs) (hn : ds.length ≤ 50000)
    (h : ∀ (i : Nat) d, ds[i]? = some d → ∃ δ2, Tgd K g js d (wipeE δ vs) δ2 ∧ Evd K te δ2 (f d)) : EvO K (tLc wi g tYes te vs) δ (ds.map f) := by
  have q := evo_lc (keep := fun _ => true) (f := f) (t := tYes) hs hj hn fun i d e => by
    obtain ⟨δ2, a, b⟩ := h i d e
    exact ⟨δ2, a, tvd_yes, fun _ => b⟩
  rw [List.filter_eq_self.mpr (fun _ _ => rfl)] at q
  exact q
/-- [te for g in wi], each turn draws at most c from the box -/
theorem eveo_lc {wi : TI} {vs js : List Nat} {c : Nat} {P : Nat → Da → Prop} (hs : Srcd K wi δ ds) (hj : ∀ j ∈ js, j ∈ vs) (hn : ds.length ≤ 50000)
    (h : ∀ (i : Nat) d, ds[i]? = some d → ∃ δ2, Tgd K g js d (wipeE (bmp (i * c) δ) vs) δ2 ∧ Eve K te δ2 c (P i)) :
    EveO K (tLc wi g tYes te vs) δ (ds.length * c) (fun rs => rs.length = ds.length ∧ ∀ i r, rs[i]? = some r → P i r) := by
  intro bp He bx σ G H le E Q q
  refine hs bp He bx σ G H le E _ fun J G1 H1 x1 w D hD => ?_
  have E1 := E.lift x1
  have nb : bx ≠ some D := E1.notBox hD
  refine lc_it w (Pv := fun i H' => ∃ G' acc rs, Ext bx G1 H1 G' H' ∧ BoxStep bx H1 H' (i * c) ∧ G' D = none ∧ H' D = some (.lst acc) ∧ Reps K G' acc rs ∧ rs.length = i ∧ ∀ j r, rs[j]? = some r → P j r)
    ⟨G1, [], [], Ext.own x1.le hD, (Ext.own (G := G1) x1.le hD).boxStep _, x1.le.free hD, upd_same, .nil, rfl, fun j r e => by simp at e⟩ (fun i H' _ ⟨G', acc, rs, x, _⟩ => x.gg.trans x.le) ?_ ?_
  · rintro i x H2 H3 hi ⟨G', acc, rs, x2, b2, n2, n3, r2, hl, hP⟩ y
    obtain ⟨G3, d, e, x3, r3⟩ := y G' x2.gg x2.le
    have hDn : H2 D ≠ none := by rw [n3]; exact fun z => nomatch z
    have n4 : G3 D = none := (x3.gs D hDn).trans n2
    have n5 : H3 D = some (.lst acc) := x3.hh D _ (fun z => nomatch z) n3
    obtain ⟨δ2, hg, he⟩ := h i d e
    have E3 := (E1.step x2 b2).lift x3
    refine hg bp He bx (wipe σ vs) G3 H3 x x3.le (E3.wipe vs) r3 _ fun σ' E' l' k' => ⟨wipe_eq hj l' k', ?_⟩
    unfold tYes
    dsimp only
    rw [if_pos rfl]
    have m5 : H3 D ≠ none := by rw [n5]; exact fun z => nomatch z
    refine he bp He bx σ' G3 H3 x3.le E' _ fun v r G5 H5 x5 b5 r5 p5 => ?_
    have x15 : Ext bx G1 H1 G5 H5 := (x2.trans x3.none_to).trans x5
    have n6 : G5 D = none := (x5.gs D m5).trans n4
    have b15 : BoxStep bx H1 H5 ((i + 1) * c) := ((b2.trans (x3.boxStep 0)).trans b5).mono (by rw [Nat.succ_mul]; exact Nat.le_refl _)
    refine ⟨acc, x5.hh D _ nb n5, len_lt (by rw [r2.len]; omega), G5, acc ++ [v], rs ++ [r], x15.mut hD n6, b15.upd nb, n6, upd_same, ?_, by rw [List.length_append, hl]; rfl, ?_⟩
    · exact (r2.mono ((x3.none_to (bx := bx)).trans x5).gg).app (.cons r5 .nil)
    · intro j r' e'
      by_cases hjj : j < rs.length
      · rw [List.getElem?_append_left hjj] at e'
        exact hP j r' e'
      · rw [List.getElem?_append_right (by omega)] at e'
        have : j - rs.length = 0 := by
          have := (List.getElem?_eq_some_iff.mp e').1
          simp at this; omega
        rw [this] at e'
        cases e'
        have : j = i := by omega
        rw [this]; exact p5
  · rintro H' ⟨G', acc, rs, x2, b2, n2, n3, r2, hl, hP⟩
    exact q D acc rs G' H' nb (x1.none_to.trans x2) (((x1.boxStep 0).trans b2).mono (by omega)) (x1.free hD) n2 n3 r2 ⟨hl, hP⟩
end
end R
set_option maxHeartbeats 4123456
/-! R4: statements, calls. -/
namespace R
open PySem L2
/-- what is wanted behind a statement -/
structure Po where
  nx : List En → Prop
  rt : Da → List En → Prop
  bk : List En → Prop := fun _ => False
  ct : List En → Prop := fun _ => False
  top : Bool := false
section
variable (K : PySem.W.Frag)
def KN (bp : Option Addr) (Ge He G : Hp) (P : List En → Prop) (f : L2.St → Hp → Prop) : Prop := ∀ bx G' H' σ' δ', Ext bp Ge He G' H' → Same G G' → ER K bp He bx G' H' σ' δ' → P δ' → f σ' H'
def KR (bp : Option Addr) (Ge He G : Hp) (P : Da → List En → Prop) (f : VK) : Prop := ∀ v d bx G' H' σ' δ', Ext bp Ge He G' H' → Same G G' → ER K bp He bx G' H' σ' δ' → Rep K G' v d → P d δ' → f v H'
/-- the statement, from the environment δ, leads to D -/
def Std (ts : TS) (δ : List En) (D : Po) : Prop := ∀ bp, (D.top = true → bp = none) → ∀ Ge He bx G H σ (E : Ends), Ext bp Ge He G H → ER K bp He bx G H σ δ →
  KN K bp Ge He G D.nx E.nx → KR K bp Ge He G D.rt E.rt → KN K bp Ge He G D.bk E.bk → KN K bp Ge He G D.ct E.ct → ts E σ H
end
section
variable {K : PySem.W.Frag} {δ δ1 δ2 : List En} {ta tb tc te tx tl : TE} {t u : TT} {d d0 d1 d2 d3 : Da} {ds es : List Da} {g g1 g2 : TG} {t1 t2 ts : TS} {D : Po}
theorem KN.lift {bp : Option Addr} {Ge He G G1 : Hp} {P : List En → Prop} {f : L2.St → Hp → Prop} (k : KN K bp Ge He G P f) (e : Same G G1) : KN K bp Ge He G1 P f :=
  fun bx G' H' σ' δ' x s E p => k bx G' H' σ' δ' x (e.trans s) E p
theorem KR.lift {bp : Option Addr} {Ge He G G1 : Hp} {P : Da → List En → Prop} {f : VK} (k : KR K bp Ge He G P f) (e : Same G G1) : KR K bp Ge He G1 P f :=
  fun v d bx G' H' σ' δ' x s E r p => k v d bx G' H' σ' δ' x (e.trans s) E r p
theorem std_seq (h : Std K t1 δ { D with nx := fun δ1 => Std K t2 δ1 D }) : Std K (tSeq t1 t2) δ D := fun bp tp Ge He bx G H σ E x er kn kr kb kc =>
  h bp tp Ge He bx G H σ { E with nx := t2 E } x er (fun bx' G' H' σ' δ' x' s er' st => st bp tp Ge He bx' G' H' σ' E x' er' (kn.lift s) (kr.lift s) (kb.lift s) (kc.lift s)) kr kb kc
theorem std_next (h : D.nx δ) : Std K tNext δ D := fun bp tp Ge He bx G H σ E x er kn kr kb kc => kn bx G H σ δ x (Same.refl G) er h
theorem std_break (h : D.bk δ) : Std K tBreak δ D := fun bp tp Ge He bx G H σ E x er kn kr kb kc => kb bx G H σ δ x (Same.refl G) er h
theorem std_cont (h : D.ct δ) : Std K tCont δ D := fun bp tp Ge He bx G H σ E x er kn kr kb kc => kc bx G H σ δ x (Same.refl G) er h
theorem std_asg {i : Nat} (h : Evd K te δ d) (k : D.nx (δ.set i (.rep d))) : Std K (tAsg te (gName i)) δ D := fun bp tp Ge He bx G H σ E x er kn kr kb kc =>
  h bp He bx σ G H x.le er _ fun v G1 H1 x1 r => kn bx G1 H1 _ _ (x.trans x1.none_to) x1.gg ((er.lift x1).set r) k
theorem ownFresh {bp bx : Option Addr} {He G H : Hp} {σ : L2.St} {l : Addr} (er : ER K bp He bx G H σ δ) (hl : H l = none) : ∀ (j : Nat) (es : List Da), δ[j]? = some (.own es) → σ[j]? ≠ some (some (.ref l)) := fun j es h z => by
  obtain ⟨l', vs, e, _, _, c, _⟩ := er.ownAt h
  rw [e] at z
  cases z
  rw [hl] at c; cases c
theorem Ext.freeE {bp : Option Addr} {Ge He G H : Hp} {l : Addr} (x : Ext bp Ge He G H) (h : H l = none) : He l = none := by
  cases e : He l with
  | none => rfl
  | some o => exact absurd h (x.hn l (by rw [e]; exact fun z => nomatch z))
theorem std_asgO {i : Nat} (h : EvO K te δ ds) (k : D.nx (δ.set i (.own ds))) : Std K (tAsg te (gName i)) δ D := fun bp tp Ge He bx G H σ E x er kn kr kb kc =>
  h bp He bx σ G H x.le er _ fun l vs G1 H1 x1 n1 n2 n3 r => kn bx G1 H1 _ _ (x.trans x1.none_to) x1.gg
    ((er.lift x1).setOwn (x.freeE n1) n2 n3 r (er.notBox n1) (ownFresh er n1)) k
theorem std_asgE {i c : Nat} {P : Da → Prop} (h : Eve K te δ c P) (k : ∀ d, P d → D.nx ((bmp c δ).set i (.rep d))) : Std K (tAsg te (gName i)) δ D := fun bp tp Ge He bx G H σ E x er kn kr kb kc =>
  h bp He bx σ G H x.le er _ fun v d G1 H1 x1 b1 r p => kn bx G1 H1 _ _ (x.join er.bxo x1) x1.gg ((er.step x1 b1).set r) (k d p)
theorem std_asgEO {i c : Nat} {P : List Da → Prop} (h : EveO K te δ c P) (k : ∀ ds, P ds → D.nx ((bmp c δ).set i (.own ds))) : Std K (tAsg te (gName i)) δ D := fun bp tp Ge He bx G H σ E x er kn kr kb kc =>
  h bp He bx σ G H x.le er _ fun l vs ds G1 H1 nb x1 b1 n1 n2 n3 r p => kn bx G1 H1 _ _ (x.join er.bxo x1) x1.gg
    ((er.step x1 b1).setOwn (x.freeE n1) n2 n3 r nb (fun j es h => ownFresh er n1 j es (bmp_own h))) (k ds p)
/-- a target of several names -/
theorem std_asgT {js : List Nat} (h : Evd K te δ d) (hg : Tgd K g js d δ δ1) (k : D.nx δ1) : Std K (tAsg te g) δ D := fun bp tp Ge He bx G H σ E x er kn kr kb kc =>
  h bp He bx σ G H x.le er _ fun v G1 H1 x1 r => hg bp He bx σ G1 H1 v x1.le (er.lift x1) r _ fun σ' er' _ _ => kn bx G1 H1 _ _ (x.trans x1.none_to) x1.gg er' k
theorem std_ret (h : Evd K te δ d) (k : D.rt d δ) : Std K (tRet te) δ D := fun bp tp Ge He bx G H σ E x er kn kr kb kc =>
  h bp He bx σ G H x.le er _ fun v G1 H1 x1 r => kr v d bx G1 H1 σ δ (x.trans x1.none_to) x1.gg (er.lift x1) r k
theorem std_retE {c : Nat} {P : Da → Prop} (h : Eve K te δ c P) (k : ∀ d, P d → D.rt d (bmp c δ)) : Std K (tRet te) δ D := fun bp tp Ge He bx G H σ E x er kn kr kb kc =>
  h bp He bx σ G H x.le er _ fun v d G1 H1 x1 b1 r p => kr v d bx G1 H1 σ _ (x.join er.bxo x1) x1.gg (er.step x1 b1) r (k d p)
theorem std_retN (k : D.rt .non δ) : Std K tRetN δ D := fun bp tp Ge He bx G H σ E x er kn kr kb kc => kr .non .non bx G H σ δ x (Same.refl G) er .non k
theorem std_drop (h : Evd K te δ d) (k : D.nx δ) : Std K (tDrop te) δ D := fun bp tp Ge He bx G H σ E x er kn kr kb kc =>
  h bp He bx σ G H x.le er _ fun v G1 H1 x1 r => kn bx G1 H1 _ _ (x.trans x1.none_to) x1.gg (er.lift x1) k
theorem std_dropE {c : Nat} {P : Da → Prop} (h : Eve K te δ c P) (k : D.nx (bmp c δ)) : Std K (tDrop te) δ D := fun bp tp Ge He bx G H σ E x er kn kr kb kc =>
  h bp He bx σ G H x.le er _ fun v d G1 H1 x1 b1 r p => kn bx G1 H1 _ _ (x.join er.bxo x1) x1.gg (er.step x1 b1) k
theorem std_if {b : Bool} (h : Tvd K t δ b) (h1 : b = true → Std K t1 δ D) (h2 : b = false → Std K t2 δ D) : Std K (tIfS t t1 t2) δ D := fun bp tp Ge He bx G H σ E x er kn kr kb kc =>
  h bp He bx σ G H x.le er _ fun G1 H1 x1 => by
    have x2 := x.trans (x1.none_to (bx := bp))
    cases b with
    | true => exact iteT (h1 rfl bp tp Ge He bx G1 H1 σ E x2 (er.lift x1) (kn.lift x1.gg) (kr.lift x1.gg) (kb.lift x1.gg) (kc.lift x1.gg))
    | false => exact iteF (h2 rfl bp tp Ge He bx G1 H1 σ E x2 (er.lift x1) (kn.lift x1.gg) (kr.lift x1.gg) (kb.lift x1.gg) (kc.lift x1.gg))
/-- a test that draws -/
theorem std_ifE {c : Nat} {P : Bool → Prop} (h : Tve K t δ c P) (h1 : P true → Std K t1 (bmp c δ) D) (h2 : P false → Std K t2 (bmp c δ) D) : Std K (tIfS t t1 t2) δ D := fun bp tp Ge He bx G H σ E x er kn kr kb kc =>
  h bp He bx σ G H x.le er _ fun b G1 H1 x1 b1 p => by
    have x2 := x.join er.bxo x1
    cases b with
    | true => exact iteT (h1 p bp tp Ge He bx G1 H1 σ E x2 (er.step x1 b1) (kn.lift x1.gg) (kr.lift x1.gg) (kb.lift x1.gg) (kc.lift x1.gg))
    | false => exact iteF (h2 p bp tp Ge He bx G1 H1 σ E x2 (er.step x1 b1) (kn.lift x1.gg) (kr.lift x1.gg) (kb.lift x1.gg) (kc.lift x1.gg))
/-- a way that can't be -/
theorem std_no (h : False) : Std K ts δ D := h.elim
/-- for g in wi: tb -/
theorem std_for {wi : TI} {js : List Nat} (hs : Srcd K wi δ ds) (I : Nat → List En → Prop) (h0 : I 0 δ)
    (hb : ∀ (i : Nat) d δ1, ds[i]? = some d → I i δ1 → ∃ δ2, Tgd K g js d δ1 δ2 ∧ Std K ts δ2 { D with nx := I (i + 1), ct := I (i + 1), bk := D.nx })
    (hd : ∀ δ1, I ds.length δ1 → D.nx δ1) : Std K (tFor wi g ts) δ D := fun bp tp Ge He bx G H σ E x er kn kr kb kc =>
  hs bp He bx σ G H x.le er _ fun J G1 H1 x1 w => by
    refine for_it w (Pv := fun i σ' H' => ∃ bx' G' δ', Ext bp Ge He G' H' ∧ Same G1 G' ∧ ER K bp He bx' G' H' σ' δ' ∧ I i δ') ⟨bx, G1, δ, x.trans x1.none_to, Same.refl G1, er.lift x1, h0⟩
      (fun i σ' H' _ ⟨_, G', _, x', s, _⟩ => s.trans x'.le) ?_ ?_
    · rintro i v σ' H2 H3 hi ⟨bx', G2, δ', x2, s2, er2, hI⟩ y
      obtain ⟨G3, d, e, x3, r3⟩ := y G2 s2 x2.le
      obtain ⟨δ2, hg, hst⟩ := hb i d δ' e hI
      have x23 := x2.trans (x3.none_to (bx := bp))
      refine hg bp He bx' σ' G3 H3 v x3.le (er2.lift x3) r3 _ fun σ2 er4 _ _ => ?_
      have s03 : Same G G3 := x1.gg.trans (s2.trans x3.gg)
      have kI : KN K bp Ge He G3 (I (i + 1)) (fun σ' H' => ∃ bx' G' δ', Ext bp Ge He G' H' ∧ Same G1 G' ∧ ER K bp He bx' G' H' σ' δ' ∧ I (i + 1) δ') := fun bx5 G5 H5 σ5 δ5 x5 s5 er5 p5 =>
        ⟨bx5, G5, δ5, x5, (s2.trans x3.gg).trans s5, er5, p5⟩
      exact hst bp tp Ge He bx' G3 H3 σ2 { E with nx := _, ct := _, bk := E.nx } x23 er4 kI (kr.lift s03) (kn.lift s03) kI
    · rintro σ' H' ⟨bx', G2, δ', x2, s2, er2, hI⟩
      exact kn bx' G2 H' σ' δ' x2 (x1.gg.trans s2) er2 (hd δ' hI)
/-- while: a word that falls -/
theorem std_while (I : Nat → List En → Prop) (m0 : Nat) (h0 : I m0 δ)
    (hs : ∀ m δ1, I m δ1 → ∃ b, Tvd K t δ1 b ∧ (b = true → Std K ts δ1 { D with nx := fun δ2 => ∃ m', m' < m ∧ I m' δ2, ct := fun δ2 => ∃ m', m' < m ∧ I m' δ2, bk := D.nx }) ∧ (b = false → D.nx δ1)) : Std K (tWhile t ts) δ D := fun bp tp Ge He bx G H σ E x er kn kr kb kc => by
  refine ⟨fun m σ' H' => ∃ bx' G' δ', Ext bp Ge He G' H' ∧ Same G G' ∧ ER K bp He bx' G' H' σ' δ' ∧ I m δ', ⟨m0, bx, G, δ, x, Same.refl G, er, h0⟩, ?_⟩
  rintro m σ' H' ⟨bx', G', δ', x2, s2, er2, hI⟩
  obtain ⟨b, hb, h1, h2⟩ := hs m δ' hI
  refine hb bp He bx' σ' G' H' x2.le er2 _ fun G1 H1 x1 => ?_
  have x3 := x2.trans (x1.none_to (bx := bp))
  have s3 := s2.trans x1.gg
  cases b with
  | true =>
    refine iteT ⟨fun σ3 H3 => ∃ m', m' < m ∧ ∃ bx' G' δ', Ext bp Ge He G' H3 ∧ Same G G' ∧ ER K bp He bx' G' H3 σ3 δ' ∧ I m' δ', fun σ3 H3 ⟨m', hm, z⟩ => ⟨m', hm, z⟩, ?_⟩
    have kI : KN K bp Ge He G1 (fun δ2 => ∃ m', m' < m ∧ I m' δ2) (fun σ3 H3 => ∃ m', m' < m ∧ ∃ bx' G' δ', Ext bp Ge He G' H3 ∧ Same G G' ∧ ER K bp He bx' G' H3 σ3 δ' ∧ I m' δ') := fun bx5 G5 H5 σ5 δ5 x5 s5 er5 ⟨m', hm, p5⟩ =>
      ⟨m', hm, bx5, G5, δ5, x5, s3.trans s5, er5, p5⟩
    exact h1 rfl bp tp Ge He bx' G1 H1 σ' { E with nx := _, ct := _, bk := E.nx } x3 (er2.lift x1) kI (kr.lift s3) (kn.lift s3) kI
  | false => exact iteF (kn bx' G1 H1 σ' δ' x3 s3 (er2.lift x1) (h2 rfl))
/-- a list of one's own is written no more -/
theorem std_frz {i : Nat} (h : δ[i]? = some (.own ds)) (k : Std K ts (δ.set i (.rep (.lst ds))) D) : Std K ts δ D := fun bp tp Ge He bx G H σ E x er kn kr kb kc => by
  obtain ⟨l, vs, e, a, b, c, r, n⟩ := er.ownAt h
  have x2 : Ext bp Ge He (upd G l (.lst vs)) H := x.known a b c
  have s2 : Same G (upd G l (.lst vs)) := same_known b
  have hσ : σ.set i (some (.ref l)) = σ := by
    refine List.ext_getElem? fun k => ?_
    by_cases hk : i = k
    · subst hk
      rw [e, List.getElem?_set_self (List.getElem?_eq_some_iff.mp e).1]
    · rw [List.getElem?_set_ne hk]
  have er2 : ER K bp He bx (upd G l (.lst vs)) H σ (δ.set i (.rep (.lst ds))) := by
    refine ⟨by rw [List.length_set]; exact er.len, fun j en hj => ?_, fun j k ds' es' l' ne h1 h2 h3 => ?_, er.bxo, fun b hb => ⟨(er.bxt b hb).1, by rw [upd_ne (fun z => n (by rw [hb, z]))]; exact (er.bxt b hb).2⟩, er.bxp⟩
    · by_cases hij : i = j
      · subst hij
        rw [List.getElem?_set_self (List.getElem?_eq_some_iff.mp h).1] at hj
        cases hj
        rw [e]
        exact ⟨_, rfl, .lst upd_same (r.mono s2)⟩
      · rw [List.getElem?_set_ne hij] at hj
        have z := er.at_ j en hj
        cases en with
        | any => trivial
        | rep d =>
          obtain ⟨v, e, r⟩ := z
          exact ⟨v, e, r.mono s2⟩
        | own ds' =>
          obtain ⟨l', vs', e', a', b', c', r', n'⟩ := z
          have ne : l' ≠ l := fun y => by
            subst y
            exact er.sep i j ds ds' l' hij h hj e (join_some e')
          exact ⟨l', vs', e', a', by rw [upd_ne ne]; exact b', c', r'.mono s2, n'⟩
        | box m =>
          obtain ⟨b0, c0, c1, c2, e', e2, g, c', r'⟩ := z
          have ne : b0 ≠ l := fun y => n (by rw [e2, y])
          exact ⟨b0, c0, c1, c2, e', e2, by rw [upd_ne ne]; exact g, c', r'⟩
    · have n1 : i ≠ j := fun z => by
        subst z
        rw [List.getElem?_set] at h1
        split at h1 <;> simp_all
      have n2 : i ≠ k := fun z => by
        subst z
        rw [List.getElem?_set] at h2
        split at h2 <;> simp_all
      rw [List.getElem?_set_ne n1] at h1
      rw [List.getElem?_set_ne n2] at h2
      exact er.sep j k ds' es' l' ne h1 h2 h3
  exact k bp tp Ge He bx _ H σ E x2 er2 (kn.lift s2) (kr.lift s2) (kb.lift s2) (kc.lift s2)
theorem Std.mono {D' : Po} (h : Std K ts δ D) (a : ∀ δ, D.nx δ → D'.nx δ) (b : ∀ d δ, D.rt d δ → D'.rt d δ) (c : ∀ δ, D.bk δ → D'.bk δ) (e : ∀ δ, D.ct δ → D'.ct δ) (f : D.top = D'.top) : Std K ts δ D' := fun bp tp Ge He bx G H σ E x er kn kr kb kc =>
  h bp (f ▸ tp) Ge He bx G H σ E x er (fun _ _ _ _ _ x s r p => kn _ _ _ _ _ x s r (a _ p)) (fun _ _ _ _ _ _ _ x s r q p => kr _ _ _ _ _ _ _ x s r q (b _ _ p)) (fun _ _ _ _ _ x s r p => kb _ _ _ _ _ x s r (c _ p)) (fun _ _ _ _ _ x s r p => kc _ _ _ _ _ x s r (e _ p))

/-! ### lists of one's own are written -/
theorem ER.mutOwn {bp bx : Option Addr} {He G H : Hp} {σ : L2.St} {i : Nat} {l : Addr} {vs : List V} {ds' : List Da} (E : ER K bp He bx G H σ δ) (h : δ[i]? = some (.own ds)) (e : σ[i]? = some (some (.ref l))) (r : Reps K G vs ds') :
    ER K bp He bx G (upd H l (.lst vs)) σ (δ.set i (.own ds')) := by
  obtain ⟨l2, vs2, e2, a2, b2, c2, r2, n2⟩ := E.ownAt h
  rw [e] at e2
  cases e2
  have hi := (List.getElem?_eq_some_iff.mp h).1
  refine ⟨by rw [List.length_set]; exact E.len, fun j en hj => ?_, fun j k ds1 es1 l' ne h1 h2 h3 => ?_, E.bxo, fun b hb => ⟨by rw [upd_ne (fun z => n2 (by rw [hb, z]))]; exact (E.bxt b hb).1, (E.bxt b hb).2⟩, E.bxp⟩
  · by_cases hij : i = j
    · subst hij
      rw [List.getElem?_set_self hi] at hj
      cases hj
      rw [e]
      exact ⟨l, vs, rfl, a2, b2, upd_same, r, n2⟩
    · rw [List.getElem?_set_ne hij] at hj
      have z := E.at_ j en hj
      cases en with
      | any => trivial
      | rep d => exact z
      | own ds1 =>
        obtain ⟨l', vs', e', a', b', c', r', n'⟩ := z
        have ne : l' ≠ l := fun y => by
          subst y
          exact E.sep i j ds ds1 l' hij h hj e (join_some e')
        exact ⟨l', vs', e', a', b', by rw [upd_ne ne]; exact c', r', n'⟩
      | box m =>
        obtain ⟨b0, c0, c1, c3, e', e2, g, c', r'⟩ := z
        have ne : b0 ≠ l := fun y => n2 (by rw [e2, y])
        exact ⟨b0, c0, c1, c3, e', e2, g, by rw [upd_ne ne]; exact c', r'⟩
  · have f : ∀ (m : Nat) (ms : List Da), (δ.set i (En.own ds'))[m]? = some (En.own ms) → ∃ ms' : List Da, δ[m]? = some (En.own ms') := fun m ms hm => by
      by_cases him : i = m
      · subst him; exact ⟨ds, h⟩
      · rw [List.getElem?_set_ne him] at hm; exact ⟨ms, hm⟩
    obtain ⟨m1, g1⟩ := f j ds1 h1
    obtain ⟨m2, g2⟩ := f k es1 h2
    exact E.sep j k m1 m2 l' ne g1 g2 h3
/-- xs.append(e) -/
theorem std_app {i : Nat} (h : δ[i]? = some (.own ds)) (he : Evd K te δ d) (hz : ds.length < 100000) (k : D.nx (δ.set i (.own (ds ++ [d])))) : Std K (tDrop (tBM K "list" rAppend (tVar i) (tCons te tNil))) δ D := fun bp tp Ge He bx G H σ E x er kn kr kb kc => by
  obtain ⟨l, vs, e, a, b, c, r, n⟩ := er.ownAt h
  refine ⟨.ref l, e, .inl ⟨rfl, vs, SqL.of c⟩, he bp He bx σ G H x.le er _ fun v G1 H1 x1 r1 => ?_⟩
  have er1 := er.lift x1
  have c1 : H1 l = some (.lst vs) := x1.hh l _ (fun z => nomatch z) c
  have b1 : G1 l = none := (x1.gs l (by rw [c]; exact fun z => nomatch z)).trans b
  refine ⟨l, vs, v, rfl, rfl, c1, len_lt (by rw [r.len]; exact hz), ?_⟩
  exact kn bx G1 _ σ _ ((x.trans x1.none_to).mut a b1) x1.gg (er1.mutOwn h e ((r.mono x1.gg).app (.cons r1 .nil))) k
end
end R
set_option maxHeartbeats 4123456
/-! R5: defs: promises, calls, bodies. -/
namespace R
open PySem L2
/-- a def that only reads: for the arguments ds it hands back some r with P ds r -/
def PuSp (K : PySem.W.Frag) (P : List Da → Da → Prop) : Sp := fun vs H Q _ => ∃ G ds r, Same G H ∧ Reps K G vs ds ∧ P ds r ∧ ∀ v G' H', Ext none G H G' H' → Rep K G' v r → Q v H'
/-- a def that draws from the box, its first argument: at most c ds draws, some r with P ds r -/
def BxSp (K : PySem.W.Frag) (c : List Da → Nat) (pre : List Da → Prop) (P : List Da → Da → Prop) : Sp := fun vs H Q _ => ∃ G b us ds n c0 c1 c2, vs = .ref b :: us ∧ Same G H ∧ G b = none ∧
  H b = some (.lst [.int c0, .int c1, .int c2]) ∧ BoxV c0 c1 c2 n ∧ n + c ds ≤ 1000000 ∧ Reps K G us ds ∧ pre ds ∧ ∀ v d G' H', Ext (some b) G H G' H' → BoxStep (some b) H H' (c ds) → Rep K G' v d → P ds d → Q v H'
def envOf (N : List Str) (δ : List En) : List En := δ ++ List.replicate (N.length - δ.length) .any
section
variable {K : PySem.W.Frag} {δ δ1 δ2 : List En} {ta tb tc te tx tl : TE} {d d0 d1 d2 d3 r : Da} {ds es : List Da} {P : List Da → Da → Prop} {E : XK}
theorem evd_call {t : TA} (h : EvdA K t δ ds) (p : P ds r) : Evd K (tCall (PuSp K P) [] E t) δ r := fun bp He bx σ G H le E Q q =>
  h bp He bx σ G H le E _ fun vs G1 H1 x1 r1 => ⟨G1, ds, r, x1.le, by rw [List.append_nil]; exact r1, p, fun v G2 H2 x2 r2 => q v G2 H2 (x1.trans x2) r2⟩
/-- with flat defaults -/
theorem evd_callD {t : TA} {fs : List Da} (h : EvdA K t δ ds) (f : fs.all flatD = true) (p : P (ds ++ fs) r) : Evd K (tCall (PuSp K P) (fs.map toV) E t) δ r := fun bp He bx σ G H le E Q q =>
  h bp He bx σ G H le E _ fun vs G1 H1 x1 r1 => ⟨G1, ds ++ fs, r, x1.le, r1.app (by
    clear p
    induction fs with
    | nil => exact .nil
    | cons d fs ih =>
      rw [List.all_cons, Bool.and_eq_true] at f
      exact .cons (rep_toV f.1) (ih f.2)), p, fun v G2 H2 x2 r2 => q v G2 H2 (x1.trans x2) r2⟩
theorem evd_call0 (p : P [] r) : Evd K (tCall (PuSp K P) [] E tNil) δ r := evd_call eva_nil p
/-- the box drawn from -/
theorem eve_call {i n c' : Nat} {c : List Da → Nat} {pre : List Da → Prop} {t : TA} (hi : δ[i]? = some (.box n)) (h : EvdA K t δ ds) (hn : n + c ds ≤ 1000000) (hp : pre ds) (hc : c ds ≤ c') :
    Eve K (tCall (BxSp K c pre P) [] E (tCons (tVar i) t)) δ c' (P ds) := fun bp He bx σ G H le er Q q => by
  obtain ⟨b, c0, c1, c2, e, e2, g, hb, v⟩ := er.boxAt hi
  refine ⟨.ref b, e, h bp He bx σ G H le er _ fun vs G1 H1 x1 r1 => ?_⟩
  have hb1 : H1 b = some (.lst [.int c0, .int c1, .int c2]) := x1.hh b _ (fun z => nomatch z) hb
  have g1 : G1 b = none := (x1.gs b (by rw [hb]; exact fun z => nomatch z)).trans g
  refine ⟨G1, b, vs, ds, n, c0, c1, c2, by rw [List.append_nil], x1.le, g1, hb1, v, hn, r1, hp, fun v d G2 H2 x2 b2 r2 p2 => ?_⟩
  subst e2
  exact q v d G2 H2 (x1.none_to.trans x2) (((x1.boxStep 0).trans b2).mono (by omega)) r2 p2
/-- .. with arguments that draw themselves -/
theorem eve_callE {i n k c' : Nat} {c : List Da → Nat} {pre : List Da → Prop} {t : TA} {PA : List Da → Prop} (hi : δ[i]? = some (.box n)) (h : EveA K t δ k PA) (hn : ∀ ds, PA ds → n + k + c ds ≤ 1000000 ∧ pre ds ∧ k + c ds ≤ c') :
    Eve K (tCall (BxSp K c pre P) [] E (tCons (tVar i) t)) δ c' (fun r => ∃ ds, PA ds ∧ P ds r) := fun bp He bx σ G H le er Q q => by
  obtain ⟨b, c0, c1, c2, e, e2, g, hb, v⟩ := er.boxAt hi
  refine ⟨.ref b, e, h bp He bx σ G H le er _ fun vs ds G1 H1 x1 b1 r1 p1 => ?_⟩
  subst e2
  obtain ⟨e0, e1, e3, hb1, v1⟩ := b1 b c0 c1 c2 n rfl hb v
  have g1 : G1 b = none := (x1.gs b (by rw [hb]; exact fun z => nomatch z)).trans g
  obtain ⟨m1, m2, m3⟩ := hn ds p1
  refine ⟨G1, b, vs, ds, n + k, e0, e1, e3, by rw [List.append_nil], x1.le, g1, hb1, v1, m1, r1, m2, fun v d G2 H2 x2 b2 r2 p2 => ?_⟩
  exact q v d G2 H2 (x1.trans x2) ((b1.trans b2).mono m3) r2 ⟨ds, p1, p2⟩
theorem eveA_cons {k1 k2 : Nat} {P1 : Da → Prop} {P2 : List Da → Prop} {tr : TA} (h : Eve K ta δ k1 P1) (hr : Eve K ta δ k1 P1 → EveA K tr (bmp k1 δ) k2 P2) : EveA K (tCons ta tr) δ (k1 + k2) (fun ds => ∃ d r, ds = d :: r ∧ P1 d ∧ P2 r) := fun bp He bx σ G H le er Q q =>
  h bp He bx σ G H le er _ fun v d G1 H1 x1 b1 r1 p1 => hr h bp He bx σ G1 H1 x1.le (er.step x1 b1) _ fun vs ds G2 H2 x2 b2 r2 p2 =>
    q (v :: vs) (d :: ds) G2 H2 (x1.trans x2) (b1.trans b2) (.cons (r1.mono x2.gg) r2) ⟨d, ds, rfl, p1, p2⟩
theorem eveA_nil : EveA K tNil δ 0 (· = []) := eva_nil.eve

/-! ### bodies -/
theorem start_get {N : List Str} {vs : List V} {i : Nat} {v : V} (h : vs[i]? = some v) : (L2.start N vs)[i]? = some (some v) := by
  unfold L2.start
  rw [List.getElem?_append_left (by rw [List.length_map]; exact (List.getElem?_eq_some_iff.mp h).1), List.getElem?_map, h]; rfl
theorem start_len {N : List Str} {vs : List V} (h : vs.length ≤ N.length) : (L2.start N vs).length = N.length := by
  unfold L2.start
  rw [List.length_append, List.length_map, List.length_replicate]; omega
theorem envOf_len {N : List Str} {δ : List En} (h : δ.length ≤ N.length) : (envOf N δ).length = N.length := by
  unfold envOf
  rw [List.length_append, List.length_replicate]; omega
theorem envOf_get {N : List Str} {δ : List En} {i : Nat} {en : En} (h : (envOf N δ)[i]? = some en) (ne : en ≠ .any) : δ[i]? = some en := by
  unfold envOf at h
  by_cases hi : i < δ.length
  · rwa [List.getElem?_append_left hi] at h
  · rw [List.getElem?_append_right (by omega), List.getElem?_replicate] at h
    split at h <;> cases h
    exact absurd rfl ne
theorem er_start {N : List Str} {vs : List V} {G H : Hp} (rs : Reps K G vs ds) (hN : ds.length ≤ N.length) : ER K none H none G H (L2.start N vs) (envOf N (ds.map .rep)) := by
  have l1 := rs.len
  refine ⟨by rw [start_len (by omega), envOf_len (by rw [List.length_map]; exact hN)], fun i en h => ?_, fun i j a b l ne h1 h2 h3 => ?_, (fun b e => nomatch e), (fun b e => nomatch e), (fun b e => nomatch e)⟩
  · cases en with
    | any => trivial
    | rep d =>
      have q := envOf_get h (fun z => nomatch z)
      rw [List.getElem?_map] at q
      cases e : ds[i]? with
      | none => rw [e] at q; cases q
      | some d' =>
        rw [e] at q; cases q
        obtain ⟨v, e1, r1⟩ := rs.get e
        exact ⟨v, by rw [start_get e1]; rfl, r1⟩
    | own _ =>
      have q := envOf_get h (fun z => nomatch z)
      rw [List.getElem?_map] at q
      cases e : ds[i]? <;> rw [e] at q <;> cases q
    | box _ =>
      have q := envOf_get h (fun z => nomatch z)
      rw [List.getElem?_map] at q
      cases e : ds[i]? <;> rw [e] at q <;> cases q
  · have q := envOf_get h1 (fun z => nomatch z)
    rw [List.getElem?_map] at q
    cases e : ds[i]? <;> rw [e] at q <;> cases q
theorem pu_body {N : List Str} {t : TS} {vs : List V} {H : Hp} {Q : VK} (h : PuSp K P vs H Q E) (hN : ∀ ds r, P ds r → ds.length ≤ N.length)
    (hb : ∀ ds r, P ds r → Std K t (envOf N (ds.map .rep)) { nx := fun _ => r = .non, rt := fun d _ => d = r }) : t { nx := fun _ H' => Q .non H', rt := Q } (L2.start N vs) H := by
  obtain ⟨G, ds, r, le, rs, p, q⟩ := h
  refine hb ds r p none (fun _ => rfl) G H none G H (L2.start N vs) _ (Ext.refl le) (er_start rs (hN ds r p)) ?_ ?_ (fun _ _ _ _ _ _ _ _ z => z) (fun _ _ _ _ _ _ _ _ z => z)
  · intro bx G' H' σ' δ' x s er e
    exact q .non G' H' x (e ▸ .non)
  · intro v d bx G' H' σ' δ' x s er rr e
    exact q v G' H' x (e ▸ rr)
theorem er_startB {N : List Str} {us : List V} {G H : Hp} {b : Addr} {c0 c1 c2 : Int} {n : Nat} (rs : Reps K G us ds) (hN : ds.length + 1 ≤ N.length) (g : G b = none) (hb : H b = some (.lst [.int c0, .int c1, .int c2])) (v : BoxV c0 c1 c2 n) :
    ER K (some b) H (some b) G H (L2.start N (.ref b :: us)) (envOf N (.box n :: ds.map .rep)) := by
  have l1 := rs.len
  refine ⟨by rw [start_len (by rw [List.length_cons]; omega), envOf_len (by rw [List.length_cons, List.length_map]; exact hN)], fun i en h => ?_, fun i j a b' l ne h1 h2 h3 => ?_, fun b' e => .inl e, fun b' e => ?_, fun b' e => e⟩
  · cases en with
    | any => trivial
    | rep d =>
      have q := envOf_get h (fun z => nomatch z)
      cases i with
      | zero => cases q
      | succ i =>
        have q : (ds.map En.rep)[i]? = some (.rep d) := q
        rw [List.getElem?_map] at q
        cases e : ds[i]? with
        | none => rw [e] at q; cases q
        | some d' =>
          rw [e] at q; cases q
          obtain ⟨v, e1, r1⟩ := rs.get e
          exact ⟨v, by rw [start_get (show (V.ref b :: us)[i + 1]? = some v from e1)]; rfl, r1⟩
    | own _ =>
      have q := envOf_get h (fun z => nomatch z)
      cases i with
      | zero => cases q
      | succ i =>
        have q : (ds.map En.rep)[i]? = _ := q
        rw [List.getElem?_map] at q
        cases e : ds[i]? <;> rw [e] at q <;> cases q
    | box m =>
      have q := envOf_get h (fun z => nomatch z)
      cases i with
      | zero =>
        cases q
        exact ⟨b, c0, c1, c2, rfl, rfl, g, hb, v⟩
      | succ i =>
        have q : (ds.map En.rep)[i]? = _ := q
        rw [List.getElem?_map] at q
        cases e : ds[i]? <;> rw [e] at q <;> cases q
  · have q := envOf_get h1 (fun z => nomatch z)
    cases i with
    | zero => cases q
    | succ i =>
      have q : (ds.map En.rep)[i]? = _ := q
      rw [List.getElem?_map] at q
      cases e : ds[i]? <;> rw [e] at q <;> cases q
  · cases e
    exact ⟨(by rw [hb]; exact (fun z => nomatch z)), g⟩
theorem bx_body {N : List Str} {t : TS} {vs : List V} {H : Hp} {Q : VK} {c : List Da → Nat} {pre : List Da → Prop} (h : BxSp K c pre P vs H Q E) (hN : ∀ ds, pre ds → ds.length + 1 ≤ N.length)
    (hb : ∀ n ds, n + c ds ≤ 1000000 → pre ds → Std K t (envOf N (.box n :: ds.map .rep)) { nx := fun _ => False, rt := fun d δ' => P ds d ∧ ∃ m, m ≤ n + c ds ∧ δ'[0]? = some (.box m) }) : t { nx := fun _ H' => Q .non H', rt := Q } (L2.start N vs) H := by
  obtain ⟨G, b, us, ds, n, c0, c1, c2, rfl, le, g, hb0, v, hn, rs, hp, q⟩ := h
  have v2 : BoxV c0 c1 c2 c2.toNat := ⟨v.1, v.2.1, v.2.2.1, v.2.2.2.1, by have := v.2.2.2.1; omega⟩
  have hc : c2.toNat ≤ n := by have := v.2.2.2.1; have := v.2.2.2.2; omega
  refine hb c2.toNat ds (by omega) hp (some b) (fun z => nomatch z) G H (some b) G H (L2.start N (.ref b :: us)) _ (Ext.refl le) (er_startB rs (hN ds hp) g hb0 v2) ?_ ?_ (fun _ _ _ _ _ _ _ _ z => z) (fun _ _ _ _ _ _ _ _ z => z)
  · intro bx G' H' σ' δ' x s er e
    exact e.elim
  · intro v' d bx G' H' σ' δ' x s er rr ⟨pd, m, hm, e⟩
    refine q v' d G' H' x (fun b' e0 e1 e2 n' eb hb' v' => ?_) rr pd
    cases eb
    rw [hb0] at hb'
    cases hb'
    obtain ⟨b2, f0, f1, f2, g1, g2, g3, g4, g5⟩ := er.boxAt e
    have : bx = some b := er.bxp b rfl
    rw [this] at g2
    cases g2
    exact ⟨f0, f1, f2, g4, g5.mono (by have := v'.2.2.2.1; have := v'.2.2.2.2; omega)⟩
end
end R
set_option maxHeartbeats 4123456
/-! R6: further rules for Python's constructs. -/
namespace R
open PySem L2
section
variable {X : Cx} {a b c e o : Expr} {te ta tb : TE} {p pos apos cpos : Pos}
/-- a text so many times -/
def repS (z : Str) (k : Nat) : Str := ⟨(List.replicate k z.cps).foldl (· ++ ·) #[]⟩
def rMulS : R2 := fun x y H Q => ∃ z n, x = .str z ∧ y = .int n ∧ 0 ≤ n ∧ n ≤ 1000 ∧ z.length ≤ 1000 ∧ Q (.str (repS z n.toNat)) H
theorem foldl_len : ∀ (l : List (Array Nat)) (acc : Array Nat), (l.foldl (· ++ ·) acc).size = acc.size + (l.map Array.size).sum
  | [], acc => by simp
  | x :: l, acc => by
    rw [List.foldl_cons, foldl_len l, Array.size_append, List.map_cons, List.sum_cons]; omega
theorem repS_len (z : Str) (k : Nat) : (repS z k).length = k * z.length := by
  show (List.foldl (· ++ ·) #[] (List.replicate k z.cps)).size = _
  rw [foldl_len, List.map_replicate, List.sum_replicate_nat]
  simp
  rfl
theorem op_mulS : OpR X (binaryOp .Mult) rMulS := by
  intro pins s σ H x y v u Q I rx ry h
  obtain ⟨z, n, rfl, rfl, h0, h1, hz, q⟩ := h
  obtain ⟨t, rfl⟩ := rx
  obtain ⟨t', rfl⟩ := ry
  have hm : z.length * n.toNat ≤ 1000 * 1000 := Nat.mul_le_mul hz (by omega)
  refine PySem.P.mul_str (by
      have e1 : decide (n < -(2 ^ 63 : Int)) = false := decide_eq_false (by omega)
      have e2 : decide (n ≥ 2 ^ 63) = false := decide_eq_false (by omega)
      rw [e1, e2]; rfl) (fun hn _ => ?_) (fun _ _ => ?_) ?_
  · have : (1000 : Int) ≤ (2 ^ 63 - 1) / n := by
      rw [Int.le_ediv_iff_mul_le (by omega)]; omega
    omega
  · unfold Builtin.Str.tooLong
    have e : sizeLine = 16777216 := sizeLine_eq
    simp
    omega
  · have fin : ∀ {w : Str} {tk : Nat} {s' : Shared} {t'' : Tok}, s' = { s with toks := tk } → w = repS z n.toNat → EP X pins σ Q (.str w t'') s' := by
      rintro w tk s' t'' rfl rfl
      exact ⟨.str _, H, I.tok _, ⟨_, rfl⟩, q⟩
    have hl : (repS z n.toNat).length ≤ sizeLine := by
      rw [repS_len, Nat.mul_comm]
      exact Nat.le_trans hm (by decide)
    by_cases c1 : n < 1
    · rw [if_pos c1]
      have e0 : n.toNat = 0 := by omega
      exact ⟨by decide, fin (s' := { s with toks := s.toks + 1 }) rfl (by rw [e0]; rfl)⟩
    · rw [if_neg c1]
      by_cases c2 : (n == 1 || z.length == 0) = true
      · rw [if_pos c2]
        refine fin (s' := s) (tk := s.toks) rfl ?_
        rw [Bool.or_eq_true] at c2
        rcases c2 with c2 | c2
        · have e1 : n.toNat = 1 := by have := beq_iff_eq.mp c2; omega
          rw [e1]
          show z = ⟨#[] ++ z.cps⟩
          rw [Array.empty_append]
        · have e0 : z.cps.size = 0 := beq_iff_eq.mp c2
          have e1 := repS_len z n.toNat
          have e2 : (repS z n.toNat).cps.size = 0 := by
            have : (repS z n.toNat).length = n.toNat * z.cps.size := e1
            rw [e0, Nat.mul_zero] at this
            exact this
          have e3 : z.cps = #[] := Array.eq_empty_of_size_eq_zero e0
          have e4 : (repS z n.toNat).cps = #[] := Array.eq_empty_of_size_eq_zero e2
          cases z with
          | mk zc =>
            dsimp only at e3
            subst e3
            show _ = _
            generalize repS ⟨#[]⟩ n.toNat = w at e4
            cases w
            dsimp only at e4
            rw [e4]
      · rw [if_neg c2]
        exact ⟨hl, fin (s' := { s with toks := s.toks + 1 }) rfl rfl⟩

/-- max(e, default=c) of ints -/
def maxI (k : Int) : List Int → Int
  | [] => k
  | n :: ns => ns.foldl max n
def rMaxD (K : PySem.W.Frag) : List V → List V → Hp → VK → Prop := fun vs zs H Q => ∃ (a : Addr) (ns : List Int) (k : Int), vs = [V.ref a] ∧ zs = [V.int k] ∧ SqL K H a (ns.map V.int) ∧ Q (.int (maxI k ns)) H
theorem reads_ints {h : Heap} : ∀ {ns : List Int} {us : List Value}, Vals (ns.map V.int) us → ReadsAll h us (ns.map PyData.int) []
  | [], _, .nil => .nil
  | n :: ns, _, .cons r t => by
    obtain ⟨tk, rfl⟩ := r
    exact .cons (as := []) (bs := []) (.int n tk) (reads_ints t)
theorem cr_maxD (hc : X.calm = true) (hr : ∃ k, Room k X.A) : CallRK X (.builtin "max") [Str.ofString "default"] (rMaxD X.K) := by
  intro pins s σ H vs zs us ws Q I r rz h
  obtain ⟨a, ns, k, rfl, rfl, hs, q⟩ := h
  obtain ⟨kr, hr⟩ := hr
  obtain rfl := Vals.ref1 r
  obtain ⟨u1, rfl, t, rfl⟩ := vals1 rz
  obtain ⟨its, rv, hl, hz⟩ := I.list hs
  have rd : ReadsAll s.heap its.toArray.toList (ns.map PyData.int) [] := by rw [List.toList_toArray]; exact reads_ints rv
  have al : PySem.W.AlikeAll (ns.map PyData.int) := by
    refine ⟨fun x hx y hy => ?_, fun x hx => ?_⟩
    · obtain ⟨i, _, rfl⟩ := List.mem_map.mp hx
      obtain ⟨j, _, rfl⟩ := List.mem_map.mp hy
      simp [PySem.W.alike]
    · obtain ⟨i, _, rfl⟩ := List.mem_map.mp hx
      exact fun z => nomatch z
  show wpAny _ _ (call (.builtin "max") [.ref a] [(Str.ofString "default", .int k t)]) _ _ _
  refine PySem.W.max_list_default (I.ok.hd hc) hl.isList rd al ?_ (fun e h' tk kp => ?_) fun y ys i v h' tk bs e ev rv' kp => ?_
  · have := hr.un
    rw [PySem.W.depth_ints]; omega
  · have e0 : ns = [] := List.map_eq_nil_iff.mp e
    subst e0
    exact ⟨.int k, H, I.kept kp, ⟨t, rfl⟩, q⟩
  · cases ns with
    | nil => cases e
    | cons n ns =>
      rw [List.map_cons] at e
      cases e
      rw [PySem.W.maxD_ints] at rv'
      cases rv'
      exact ⟨.int _, H, I.kept kp, ⟨_, rfl⟩, q⟩

/-- list(d.items()), d a dict that is locked: the tuples and the list are new -/
def rItemsF : V → Hp → VK → Prop := fun x H Q => ∃ (d : Addr) (o : Obj) (kvs : List (Key × V)), x = .ref d ∧ H d = some (.frz o (.dK kvs)) ∧
  ∀ (H' : Hp) (p : Addr) (ts : List Addr), Same H H' → H p = none → (∀ t ∈ ts, H t = none) → p ∉ ts → H' p = some (.lst (ts.map V.ref)) →
    Paired (fun (t : Addr) (q : Key × V) => H' t = some (.tup [kV q.1, q.2])) ts kvs → Q (.ref p) H'
def tItemsF (te : TE) : TE := fun σ H Q => te σ H fun x H1 => rItemsF x H1 Q
theorem pe_itemsF (hc : X.calm = true) (he : PE X e te) (hg : Gl X "list") (hm : X.mg "list" = none) (hv : bootBuiltins "list" = some (.type "list"))
    (hbase : attributeBase e "items" X.env (eval e X.env) = eval e X.env := by rfl) (hline : (apos.endLine == cpos.line) = true := by rfl)
    (hs : starEach [.Call (.Attribute e "items" apos) [] [] cpos] X.env = (false, eval (.Call (.Attribute e "items" apos) [] [] cpos) X.env) :: starEach [] X.env := by rfl) :
    PE X (.Call (.Name "list" p) [.Call (.Attribute e "items" apos) [] [] cpos] [] pos) (tItemsF te) := by
  refine ⟨fun pins s σ H Q I hq => ?_⟩
  refine wpAny_Call_Name_kw (ld_blt I hg hm hv (PyProof.Rows.callWith_type1 ?_ hs rfl))
  rw [hs]
  refine Calls.spliced_cons (wpAny_Call_method (T := "dict") (id := "dict.items") hbase rfl hline F.plainAttrs_dict F.slot_dict_items F.type_dict_items
    (thn (he.run pins s σ H _ I hq) fun u s1 ⟨x, H1, I1, rx, d, o, kvs, ex, hd, q⟩ => ?_))
  subst ex
  obtain rfl : u = Value.ref d := rx
  obtain ⟨_, hz, hs0, vs, kv, hdo⟩ := I1.hok d _ hd
  obtain ⟨ep, hat⟩ := hdo.dictAt
  have lk : kvs.length = vs.length := Paired.length kv
  have I2 : Inv X pins σ H1 { s1 with heap := s1.heap.push { cls := .type "dict_items", data := .fields #[.ref d] } } :=
    I1.kept (t' := s1.toks) fun b ob q => Heap.get?_push_of_some _ q
  refine ⟨hdo.typeIs, hdo.mapOf.noDict, ?_⟩
  show wpAny _ _ (callWith cpos (.builtin "dict.items") [.ref d] [] []) _ X.xe s1
  refine method_meetsIn F.slot_dict_items F.entry_dict_items rfl
    (PySem.evalArgs_none ⟨rfl, hdo.typeIs, F.args_dict_items_1 _, _, meets_dict_items (mixKind X.prog X.w) d hs0, ⟨vs, hdo⟩, ?_⟩)
  refine Calls.spliced_nil (PySem.W.kdx_call (knd := mixKind X.prog X.w) (kvs := vs) (ep := ep) (I1.ok.hd hc)
    ⟨_, Heap.get?_push_size _ rfl, rfl, rfl⟩ (hat.push _) (by omega) fun h' tk acc c as hk hS hl hG hacc => ?_)
  obtain ⟨H', k1, k2, k3, k4, k5, k6, J⟩ := LiI.items_laid (tk := tk) I2 hz kv hk hS hl hG hacc
  refine ⟨.ref _, H', J, rfl, q H' _ as k1 k2 k3 k4 k5 k6⟩

/-- len(o), o of an own class with __len__ -/
def tLenOwn (K : PySem.W.Frag) (C : Addr) (sp : Sp) (ta : TE) : TE := fun σ H Q => ta σ H fun x H1 => ∃ a dx fs, x = .ref a ∧ H1 a = some (.ins C dx fs) ∧ sp [x] H1 (fun v H2 => ∃ n : Int, v = .int n ∧ 0 ≤ n ∧ n < 2 ^ 63 ∧ Q (.int n) H2) (fun _ _ _ => False)
theorem pe_lenOwn {C f : Addr} {k : Nat} {fd : FuncData} {ps : List Str} {sp : Sp} {CX : CXT} (ml : PySem.W.findIn X.K (.ref C) "__len__" = some (some (.ref f))) (hf : PySem.W.isFn X.K (.ref f) = true)
    (F : FnOk X.prog X.w X.K X.mg X.base CX k f fd ps sp) (hr : Room (k + 1) X.A) (hb : Binds X.K fd ps []) (hx : Passes CX X (fun _ _ _ => False)) (ha : PE X a ta) (hg : Gl X "len") (hm : X.mg "len" = none)
    (hs : starEach [a] X.env = (false, eval a X.env) :: starEach [] X.env := by rfl) : PE X (.Call (.Name "len" p) [a] [] pos) (tLenOwn X.K C sp ta) := by
  refine ⟨fun pins s σ H Q I h => ?_⟩
  refine wpAny_Call_Name_kw (ld_blt I hg hm PySem.boot_len (PyProof.Rows.callWith_builtin1 ?_ hs rfl))
  rw [hs]
  refine Calls.spliced_cons (thn (ha.run pins s σ H _ I h) fun u s1 ⟨x, H1, I1, rx, q, dx, fs, ex, hd, hq⟩ => Calls.spliced_nil ?_)
  subst ex
  obtain rfl : u = Value.ref q := rx
  obtain ⟨mA, O, _⟩ := ins_get I1.hok hd
  obtain ⟨od, J, _⟩ := O.look
  obtain ⟨m, fr⟩ := I1.fr
  refine PySem.W.len_K fr I1.ok.mod.kin J ml hf ?_
  have A1 : Room k X.A.in1 := hr.in1
  have e0 := I1.env0.in1
  have hl := F.len _ _ _ _ hq
  refine wpAny_call (codeAny_mono (F.run X.A.in1 X.stack s1 H1 ⟨[.ref q], []⟩ [.ref q] [.ref q] _ _ A1 e0 (by
    have := hb s1 [.ref q] I1.kIn (by rw [List.append_nil]; exact hl)
    rwa [List.append_nil] at this) (.cons rfl .nil) hq) fun r s' hq' => ?_)
  cases r with
  | error e => exact hx pins σ H1 s1 e s' I1 hq'
  | ok fl =>
    cases fl with
    | ret u' =>
      obtain ⟨v, H', I2, rv, n, ev, h0, h1, q2⟩ := I1.after hq'
      subst ev
      obtain ⟨t, rfl⟩ := rv
      exact ⟨⟨h0, h1⟩, .int n, H', I2.tok _, ⟨_, rfl⟩, q2⟩
    | next => exact False.elim hq'
    | brk => exact False.elim hq'
    | cont => exact False.elim hq'

/-- a dict that is written no more -/
def Da.isDic : HO → Prop
  | .dK _ => True
  | _ => False
def tFrz (te : TE) : TE := fun σ H Q => te σ H fun v H1 => ∃ d kvs, v = .ref d ∧ H1 d = some (.dK kvs) ∧ ∀ o, Q v (upd H1 d (.frz o (.dK kvs)))
theorem pe_frz (h : PE X e te) : PE X e (tFrz te) := by
  refine ⟨fun pins s σ H Q I hq => thn (h.run pins s σ H _ I hq) fun v s1 ⟨x, H1, I1, r1, d, kvs, ex, hd, q⟩ => ?_⟩
  obtain ⟨o, I2⟩ := I1.lock hd True.intro
  exact ⟨x, _, I2, r1, q o⟩
/-- .. ahead of the next statements: the dict in the field f of the instance in slot i -/
def tFrzS (ts : TS) : TS := fun D σ H => ∃ d kvs, H d = some (.dK kvs) ∧ ∀ o, ts D σ (upd H d (.frz o (.dK kvs)))
theorem pss_frz {sts : List Stmt} {ts : TS} (h : PSs X sts ts) : PSs X sts (tFrzS ts) := by
  refine ⟨fun pins s σ H D I hq => ?_⟩
  obtain ⟨d, kvs, hd, q⟩ := hq
  obtain ⟨o, I2⟩ := I.lock hd True.intro
  exact h.run pins s σ _ D I2 (q o)
/-- .. behind them -/
def tFrzE (ts : TS) : TS := fun D σ H => ts { D with nx := fun σ' H' => ∃ d kvs, H' d = some (.dK kvs) ∧ ∀ o, D.nx σ' (upd H' d (.frz o (.dK kvs))) } σ H
theorem pss_frzE {sts : List Stmt} {ts : TS} (h : PSs X sts ts) : PSs X sts (tFrzE ts) := by
  refine ⟨fun pins s σ H D I hq => thn (h.run pins s σ _ _ I hq) fun f s1 q => ?_⟩
  cases f with
  | next =>
    obtain ⟨σ', H', I', d, kvs, hd, q⟩ := q
    obtain ⟨o, I2⟩ := I'.lock hd True.intro
    exact ⟨σ', _, I2, q o⟩
  | ret v => exact q
  | brk => exact q
  | cont => exact q
end
end R
set_option maxHeartbeats 4123456
/-! R7: operations on data. -/
namespace R
open PySem L2
section
variable {K : PySem.W.Frag} {δ δ1 : List En} {ta tb tc te tx tl to : TE} {t u : TT} {d d0 d1 d2 d3 : Da} {ds es : List Da} {r r' : R2}
/-! ### texts -/
def rAddS : R2 := fun x y H Q => ∃ i j, x = .str i ∧ y = .str j ∧ i.length + j.length ≤ sizeLine ∧ Q (.str (i ++ j)) H
theorem op_addS {X : Cx} : OpR X (binaryOp .Add) rAddS := op_add_str
theorem op2_addS {x y : Str} (h : x.length + y.length ≤ 100000) : Op2 K rAddS (.str x) (.str y) (.str (x ++ y)) := fun v1 v2 G H le r1 r2 Q q =>
  ⟨x, y, r1.strI, r2.strI, len_line h, q _ G H (Ext.refl le) (.str _)⟩
theorem op2_mulS {z : Str} {n : Int} (h0 : 0 ≤ n) (h1 : n ≤ 1000) (h2 : z.length ≤ 1000) : Op2 K rMulS (.str z) (.int n) (.str (repS z n.toNat)) := fun v1 v2 G H le r1 r2 Q q =>
  ⟨z, n, r1.strI, r2.intI, h0, h1, h2, q _ G H (Ext.refl le) (.str _)⟩
def rJoin (K : PySem.W.Frag) : V → List V → Hp → VK → Prop := fun x xs H Q => ∃ a p, ∃ ys : List Str, x = .str a ∧ xs = [.ref p] ∧ (SqL K H p (ys.map V.str) ∨ SqT K H p (ys.map V.str)) ∧
    (ys.map (·.length)).sum + ys.length * a.length ≤ 16777216 ∧ Q (.str (Txt.join a ys)) H
theorem mt_joinR {X : Cx} : MtR X "str.join" (rJoin X.K) := mt_join
theorem toV_strs (ys : List Str) : (ys.map Da.str).map toV = ys.map V.str := by rw [List.map_map]; rfl
theorem evd_bm {T : String} {r : V → List V → Hp → VK → Prop} {tar : TA} (ho : Evd K to δ d0) (ha : EvdA K tar δ es) (ty : ∀ v G H, Same G H → Rep K G v d0 → tyV K T v H) (hr : Opm K r d0 es d) : Evd K (tBM K T r to tar) δ d :=
  fun bp He bx σ G H le E Q q => ho bp He bx σ G H le E _ fun v G1 H1 x1 r1 => ⟨ty v G1 H1 x1.le r1, ha bp He bx σ G1 H1 x1.le (E.lift x1) _ fun vs G2 H2 x2 r2 =>
    hr v vs G2 H2 x2.le (r1.mono x2.gg) r2 Q fun w G3 H3 x3 r3 => q w G3 H3 ((x1.trans x2).trans x3) r3⟩
theorem tyS {v : V} {G H : Hp} {z : Str} (le : Same G H) (r : Rep K G v (.str z)) : tyV K "str" v H := by rw [r.strI]; rfl
theorem opm_join {a : Str} {ys : List Str} (h : (ys.map (·.length)).sum + ys.length * a.length ≤ 16777216) : Opm K (rJoin K) (.str a) [.lst (ys.map .str)] (.str (Str.join a ys)) := fun v vs G H le r rs Q q => by
  cases rs with
  | cons r1 r2 =>
    cases r2
    cases r1 with
    | lst hx rr =>
      have e := rr.flat (flat_strs ys)
      rw [toV_strs] at e
      subst e
      refine ⟨a, _, ys, r.strI, rfl, .inl (SqL.of (le _ _ hx)), h, ?_⟩
      rw [TL.join_eq]
      exact q _ G H (Ext.refl le) (.str _)
theorem evd_join {a : Str} {ys : List Str} {te : TE} (ho : Evd K to δ (.str a)) (ha : Evd K te δ (.lst (ys.map .str))) (h : (ys.map (·.length)).sum + ys.length * a.length ≤ 16777216) : Evd K (tBM K "str" (rJoin K) to (tCons te tNil)) δ (.str (Str.join a ys)) :=
  evd_bm ho (eva_cons ha eva_nil) (fun v G H le r => tyS le r) (opm_join h)
/-- slices -/
theorem ovd_none : Ovd K tNoPart δ none := fun bp He bx σ G H le E Q q => q G H (Ext.refl le)
theorem ovd_some {i : Int} (h : Evd K te δ (.int i)) : Ovd K (tPart te) δ (some i) := fun bp He bx σ G H le E Q q => h bp He bx σ G H le E _ fun v G1 H1 x1 r1 => ⟨i, r1.intI, q G1 H1 x1⟩
theorem evd_slS {z : Str} {tlo thi : TO} {lo hi : Option Int} (h : Evd K te δ (.str z)) (h1 : Ovd K tlo δ lo) (h2 : Ovd K thi δ hi) (hz : z.length ≤ 100000) : Evd K (tSl rSlS te tlo thi) δ (.str (cutS z lo hi)) :=
  fun bp He bx σ G H le E Q q => h bp He bx σ G H le E _ fun v G1 H1 x1 r1 => h1 bp He bx σ G1 H1 x1.le (E.lift x1) _ fun G2 H2 x2 => h2 bp He bx σ G2 H2 x2.le (E.lift (x1.trans x2)) _ fun G3 H3 x3 =>
    ⟨z, r1.strI, len_line hz, q _ G3 H3 ((x1.trans x2).trans x3) (.str _)⟩
def cutD (ds : List Da) (lo hi : Option Int) : List Da := (ds.drop (HT.sIx ds.length 0 lo)).take (HT.sIx ds.length ds.length hi - HT.sIx ds.length 0 lo)
theorem Reps.cut {G : Hp} {vs : List V} {lo hi : Option Int} (h : Reps K G vs ds) : Reps K G (cutV vs lo hi) (cutD ds lo hi) := by
  unfold cutV cutD
  rw [h.len]
  exact (h.drop _).take _
theorem evo_slL {tlo thi : TO} {lo hi : Option Int} (h : Evd K te δ (.lst ds)) (h1 : Ovd K tlo δ lo) (h2 : Ovd K thi δ hi) : EvO K (tSl (rSlL K) te tlo thi) δ (cutD ds lo hi) :=
  fun bp He bx σ G H le E Q q => h bp He bx σ G H le E _ fun v G1 H1 x1 r1 => h1 bp He bx σ G1 H1 x1.le (E.lift x1) _ fun G2 H2 x2 => h2 bp He bx σ G2 H2 x2.le (E.lift (x1.trans x2)) _ fun G3 H3 x3 => by
    have x := (x1.trans x2).trans x3
    have r3 := r1.mono (x2.trans x3).gg
    cases r3 with
    | lst hx rs => exact ⟨_, _, rfl, SqL.of (x3.le _ _ hx), fun p hp => q p _ G3 _ (x.trans (Ext.own x3.le hp)) (x.free hp) (x3.le.free hp) upd_same rs.cut⟩

/-! ### lists -/
theorem op2o_cat (h : ds.length + es.length ≤ 100000) : Op2O K rCat (.lst ds) (.lst es) (ds ++ es) := fun v1 v2 G H le r1 r2 Q q => by
  cases r1 with
  | lst h1 s1 =>
    cases r2 with
    | lst h2 s2 => exact ⟨_, _, _, _, rfl, rfl, le _ _ h1, le _ _ h2, by rw [s1.len, s2.len]; exact len_line h, fun p hp => q p _ G _ (Ext.own le hp) hp (le.free hp) upd_same (s1.app s2)⟩
theorem reps_rep {G : Hp} {vs : List V} (h : Reps K G vs ds) : ∀ k : Nat, Reps K G (List.replicate k vs).flatten (List.replicate k ds).flatten
  | 0 => .nil
  | k + 1 => by
    rw [List.replicate_succ, List.replicate_succ, List.flatten_cons, List.flatten_cons]
    exact h.app (reps_rep h k)
theorem op2o_rep {n : Int} (h0 : 0 ≤ n) (h1 : n ≤ 1000) (h : ds.length ≤ 100) : Op2O K rRep (.lst ds) (.int n) (List.replicate n.toNat ds).flatten := fun v1 v2 G H le r1 r2 Q q => by
  cases r1 with
  | lst hx s1 =>
    have hm : ds.length * n.toNat ≤ 100 * 1000 := Nat.mul_le_mul h (by omega)
    exact ⟨_, n, _, rfl, r2.intI, le _ _ hx, by omega, by omega, by rw [s1.len]; exact len_line hm, fun p hp => q p _ G _ (Ext.own le hp) hp (le.free hp) upd_same (reps_rep s1 _)⟩
def rLenA (K : PySem.W.Frag) : List V → Hp → VK → Prop := fun xs H Q => ∃ x n, xs = [x] ∧ LenV K x H n ∧ Q (.int n) H
theorem call_lenA {X : Cx} : CallR X (.builtin "len") (rLenA X.K) := call_len
theorem opn_lenL : Opn K (rLenA K) [.lst ds] (.int ds.length) := fun vs G H le rs Q q => by
  cases rs with
  | cons r1 r2 =>
    cases r2
    cases r1 with
    | lst hx s => exact ⟨_, ds.length, rfl, .inl ⟨_, SqL.of (le _ _ hx), s.len.symm⟩, q _ G H (Ext.refl le) (.int _)⟩
theorem opn_lenT : Opn K (rLenA K) [.tup ds] (.int ds.length) := fun vs G H le rs Q q => by
  cases rs with
  | cons r1 r2 =>
    cases r2
    cases r1 with
    | tup hx s => exact ⟨_, ds.length, rfl, .inr ⟨_, sqT_same le hx, s.len.symm⟩, q _ G H (Ext.refl le) (.int _)⟩
theorem opn_lenC {ns : List Int} : Opn K (rLenA K) [.scr ns] (.int ns.length) := fun vs G H le rs Q q => by
  cases rs with
  | cons r1 r2 =>
    cases r2
    cases r1 with
    | scr hx => exact ⟨_, ns.length, rfl, .inl ⟨_, le.seq hx, (List.length_map _).symm⟩, q _ G H (Ext.refl le) (.int _)⟩
theorem opn_lenS {z : Str} (h : z.length ≤ 100000) : Opn K (rLenA K) [.str z] (.int z.length) := fun vs G H le rs Q q => by
  cases rs with
  | cons r1 r2 =>
    cases r2
    rw [r1.strI]
    exact ⟨_, z.length, rfl, ⟨len_line h, rfl⟩, q _ G H (Ext.refl le) (.int _)⟩
theorem toV_bls (bs : List Bool) : (bs.map Da.bl).map toV = bs.map V.bl := by rw [List.map_map]; rfl
theorem flat_bls (ns : List Bool) : (ns.map Da.bl).all flatD = true := by rw [List.all_map]; exact List.all_eq_true.mpr fun _ _ => rfl
theorem toV_ints (bs : List Int) : (bs.map Da.int).map toV = bs.map V.int := by rw [List.map_map]; rfl
theorem opn_all {bs : List Bool} : Opn K (rAll K) [.lst (bs.map .bl)] (.bl (bs.all id)) := fun vs G H le rs Q q => by
  cases rs with
  | cons r1 r2 =>
    cases r2
    cases r1 with
    | lst hx s =>
      have e := s.flat (flat_bls bs)
      rw [toV_bls] at e
      subst e
      exact ⟨_, bs, rfl, SqL.of (le _ _ hx), q _ G H (Ext.refl le) (.bl _)⟩
theorem opn_any {bs : List Bool} : Opn K (rAny K) [.lst (bs.map .bl)] (.bl (bs.any id)) := fun vs G H le rs Q q => by
  cases rs with
  | cons r1 r2 =>
    cases r2
    cases r1 with
    | lst hx s =>
      have e := s.flat (flat_bls bs)
      rw [toV_bls] at e
      subst e
      exact ⟨_, bs, rfl, SqL.of (le _ _ hx), q _ G H (Ext.refl le) (.bl _)⟩
theorem opn_sum {ns : List Int} : Opn K (rSum K) [.lst (ns.map .int)] (.int ns.sum) := fun vs G H le rs Q q => by
  cases rs with
  | cons r1 r2 =>
    cases r2
    cases r1 with
    | lst hx s =>
      have e := s.flat (flat_ints ns)
      rw [toV_ints] at e
      subst e
      exact ⟨_, ns, rfl, SqL.of (le _ _ hx), q _ G H (Ext.refl le) (.int _)⟩
theorem evd_maxD {ns : List Int} {k : Int} (h : Evd K ta δ (.lst (ns.map .int))) (hk : Evd K tb δ (.int k)) : Evd K (tCKw (rMaxD K) (tCons ta tNil) (tCons tb tNil)) δ (.int (maxI k ns)) := fun bp He bx σ G H le E Q q =>
  h bp He bx σ G H le E _ fun v G1 H1 x1 r1 => hk bp He bx σ G1 H1 x1.le (E.lift x1) _ fun w G2 H2 x2 r2 => by
    have r1 := r1.mono x2.gg
    cases r1 with
    | lst hx s =>
      have e := s.flat (flat_ints ns)
      rw [toV_ints] at e
      subst e
      exact ⟨_, ns, k, rfl, by rw [r2.intI], SqL.of (x2.le _ _ hx), q _ G2 H2 (x1.trans x2) (.int _)⟩
def rMax2 : List V → Hp → VK → Prop := fun xs H Q => ∃ i j, xs = [.int i, .int j] ∧ Q (.int (if j > i then j else i)) H
def rMin2 : List V → Hp → VK → Prop := fun xs H Q => ∃ i j, xs = [.int i, .int j] ∧ Q (.int (if j < i then j else i)) H
theorem cr_max2 {X : Cx} (hc : X.calm = true) : CallR X (.builtin "max") rMax2 := call_max2 hc
theorem cr_min2 {X : Cx} (hc : X.calm = true) : CallR X (.builtin "min") rMin2 := call_min2 hc
theorem opn_max2 {i j : Int} : Opn K rMax2 [.int i, .int j] (.int (if j > i then j else i)) := fun vs G H le rs Q q => by
  cases rs with
  | cons r1 r2 =>
    cases r2 with
    | cons r2 r3 =>
      cases r3
      rw [r1.intI, r2.intI]
      exact ⟨i, j, rfl, q _ G H (Ext.refl le) (.int _)⟩
theorem opn_min2 {i j : Int} : Opn K rMin2 [.int i, .int j] (.int (if j < i then j else i)) := fun vs G H le rs Q q => by
  cases rs with
  | cons r1 r2 =>
    cases r2 with
    | cons r2 r3 =>
      cases r3
      rw [r1.intI, r2.intI]
      exact ⟨i, j, rfl, q _ G H (Ext.refl le) (.int _)⟩
def rInt1 : List V → Hp → VK → Prop := fun xs H Q => (∃ i, xs = [.int i] ∧ Q (.int i) H) ∨ ∃ k, xs = [.bl k] ∧ Q (.int (if k then 1 else 0)) H
theorem call_intR {X : Cx} : CallR X (.type "int") rInt1 := call_int1
theorem opn_intB {b : Bool} : Opn K rInt1 [.bl b] (.int (if b then 1 else 0)) := fun vs G H le rs Q q => by
  cases rs with
  | cons r1 r2 =>
    cases r2
    rw [r1.blI]
    exact .inr ⟨b, rfl, q _ G H (Ext.refl le) (.int _)⟩
/-- list(x), tuple(x) -/
def rListOf (K : PySem.W.Frag) : List V → Hp → VK → Prop := fun xs H Q => ∃ p ys, xs = [.ref p] ∧ (SqL K H p ys ∨ SqT K H p ys) ∧ ∀ l, H l = none → Q (.ref l) (upd H l (.lst ys))
theorem call_listOf {X : Cx} : CallR X (.type "list") (rListOf X.K) := call_list_of
theorem opno_listL : OpnO K (rListOf K) [.lst ds] ds := fun vs G H le rs Q q => by
  cases rs with
  | cons r1 r2 =>
    cases r2
    cases r1 with
    | lst hx s => exact ⟨_, _, rfl, .inl (SqL.of (le _ _ hx)), fun p hp => q p _ G _ (Ext.own le hp) hp (le.free hp) upd_same s⟩
theorem opno_listT : OpnO K (rListOf K) [.tup ds] ds := fun vs G H le rs Q q => by
  cases rs with
  | cons r1 r2 =>
    cases r2
    cases r1 with
    | tup hx s => exact ⟨_, _, rfl, .inr (sqT_same le hx), fun p hp => q p _ G _ (Ext.own le hp) hp (le.free hp) upd_same s⟩
def rTupOf (K : PySem.W.Frag) : List V → Hp → VK → Prop := fun xs H Q => ∃ p ys, xs = [.ref p] ∧ ((SqL K H p ys ∧ ∀ l, H l = none → Q (.ref l) (upd H l (.tup ys))) ∨ (SqT K H p ys ∧ Q (.ref p) H))
theorem call_tupOf {X : Cx} : CallR X (.type "tuple") (rTupOf X.K) := call_tuple_of
theorem opn_tupL : Opn K (rTupOf K) [.lst ds] (.tup ds) := fun vs G H le rs Q q => by
  cases rs with
  | cons r1 r2 =>
    cases r2
    cases r1 with
    | lst hx s => exact ⟨_, _, rfl, .inl ⟨SqL.of (le _ _ hx), fun p hp => q (.ref p) _ _ (Ext.new le hp) (.tup (SqT.of upd_same) (s.mono (same_known (le.free hp))))⟩⟩

/-! ### dicts, fields -/
def lookD (kds : List (Key × Da)) (k : Key) : Option Da := (kds.find? fun kv => decide (kv.1 = k)).map (·.2)
theorem RepK.look {G : Hp} : ∀ {kvs : List (Key × V)} {kds : List (Key × Da)} (k : Key), RepK K G kvs kds → (valV kvs k = none ∧ lookD kds k = none) ∨ ∃ v d, valV kvs k = some v ∧ lookD kds k = some d ∧ Rep K G v d
  | _, _, k, .nil => .inl ⟨rfl, rfl⟩
  | _, _, k, .cons (k := k0) h r => by
    by_cases e : k0 = k
    · subst e
      exact .inr ⟨_, _, valV_pos rfl, by unfold lookD; rw [List.find?_cons, decide_eq_true rfl]; rfl, h⟩
    · rcases r.look k with ⟨a, b⟩ | ⟨v, d, a, b, c⟩
      · refine .inl ⟨(valV_neg e).trans a, ?_⟩
        unfold lookD at b ⊢
        rw [List.find?_cons, decide_eq_false e]
        exact b
      · refine .inr ⟨v, d, (valV_neg e).trans a, ?_, c⟩
        unfold lookD at b ⊢
        rw [List.find?_cons, decide_eq_false e]
        exact b
theorem Rep.key {G : Hp} {v : V} {k : Key} (h : Rep K G v (keyD k)) : v = kV k := by cases k <;> cases h <;> rfl
theorem evd_dget {kds : List (Key × Da)} {k : Key} (h : Evd K ta δ (.dic kds)) (hk : Evd K tb δ (keyD k)) (e : lookD kds k = some d) : Evd K (tDGet ta tb) δ d := fun bp He bx σ G H le E Q q =>
  h bp He bx σ G H le E _ fun v G1 H1 x1 r1 => hk bp He bx σ G1 H1 x1.le (E.lift x1) _ fun w G2 H2 x2 r2 => by
    have r1 := r1.mono x2.gg
    cases r1 with
    | @dic a o kvs _ hx rs =>
      rcases rs.look k with ⟨_, b⟩ | ⟨v, d', a1, b, c⟩
      · rw [b] at e; cases e
      · rw [b] at e
        cases e
        exact ⟨a, v, rfl, .inl ⟨kvs, k, .inr ⟨o, x2.le _ _ hx⟩, r2.key, a1.symm⟩, q v G2 H2 (x1.trans x2) c⟩
theorem evd_din {kds : List (Key × Da)} {k : Key} (hk : Evd K tb δ (keyD k)) (h : Evd K ta δ (.dic kds)) : Evd K (tDIn tb ta) δ (.bl (lookD kds k).isSome) := fun bp He bx σ G H le E Q q =>
  hk bp He bx σ G H le E _ fun w G1 H1 x1 r2 => h bp He bx σ G1 H1 x1.le (E.lift x1) _ fun v G2 H2 x2 r1 => by
    cases r1 with
    | @dic a o kvs _ hx rs =>
      refine ⟨a, valV kvs k, rfl, .inl ⟨kvs, k, .inr ⟨o, x2.le _ _ hx⟩, r2.key, rfl⟩, ?_⟩
      rcases rs.look k with ⟨a1, b⟩ | ⟨v, d', a1, b, c⟩
      · rw [a1]; rw [b] at q; exact q _ G2 H2 (x1.trans x2) (.bl _)
      · rw [a1]; rw [b] at q; exact q _ G2 H2 (x1.trans x2) (.bl _)
def rowsD (cs : List (Str × Str)) : List (Key × Da) := cs.map fun c => ((Sum.inr c.1 : Key), Da.str c.2)
theorem repK_rows {G : Hp} : ∀ cs : List (Str × Str), RepK K G (rowsOf cs) (rowsD cs)
  | [] => .nil
  | c :: cs => .cons (.str c.2) (repK_rows cs)
theorem evd_rows {cs : List (Str × Str)} (hc : Cls K (PC K)) (hn : NoAttr K (PC K) "pack_rows") (h : Evd K ta δ (.pck cs)) : Evd K (tFld K ta "pack_rows") δ (.dic (rowsD cs)) := fun bp He bx σ G H le E Q q =>
  h bp He bx σ G H le E _ fun v G1 H1 x1 r1 => by
    cases r1 with
    | pck h1 h2 h3 => exact ⟨_, _, _, _, _, rfl, x1.le _ _ h1, hc, hn, rfl, q _ G1 H1 x1 (.dic h3 (repK_rows cs))⟩
/-- the cards as data -/
def cardD (c : Str × Str) : Da := .tup [.str c.1, .str c.2]
def cardsD (cs : List (Str × Str)) : List Da := cs.map cardD
theorem kvD_reps : ∀ {ts : List Addr} {kvs : List (Key × V)} {kds : List (Key × Da)} {G' : Hp}, Paired (fun (t : Addr) (q : Key × V) => G' t = some (.tup [kV q.1, q.2])) ts kvs → RepK K G' kvs kds →
    Reps K G' (ts.map V.ref) (kds.map fun k => .tup [keyD k.1, k.2])
  | _, _, _, _, .nil, .nil => .nil
  | _, _, _, _, .cons h r, .cons h2 r2 => .cons (.tup (SqT.of h) (.cons (rep_key _) (.cons h2 .nil))) (kvD_reps r r2)
theorem evo_items {kds : List (Key × Da)} (h : Evd K ta δ (.dic kds)) : EvO K (tItemsF ta) δ (kds.map fun k => .tup [keyD k.1, k.2]) := fun bp He bx σ G H le E Q q =>
  h bp He bx σ G H le E _ fun v G1 H1 x1 r1 => by
    cases r1 with
    | @dic a o kvs _ hx rs =>
      refine ⟨a, o, kvs, rfl, x1.le _ _ hx, fun H' p ts s n1 n2 n3 n4 n5 => ?_⟩
      -- the tuples become known
      let G' : Hp := fun b => if b ∈ ts then H' b else G1 b
      have gt : ∀ b ∈ ts, G' b = H' b := fun b hb => if_pos hb
      have gn : ∀ b, b ∉ ts → G' b = G1 b := fun b hb => if_neg hb
      have g1n : ∀ b ∈ ts, G1 b = none := fun b hb => x1.le.free (n2 b hb)
      have x2 : Ext none G1 H1 G' H' := by
        refine ⟨fun b u e => ?_, fun b u _ e => s b u e, fun b e => ?_, fun b e => gn b fun z => e (n2 b z), fun b u e => ?_⟩
        · have : b ∉ ts := fun z => by rw [g1n b z] at e; cases e
          rw [gn b this]; exact e
        · cases e2 : H1 b with
          | none => exact absurd e2 e
          | some u => rw [s b u e2]; exact fun z => nomatch z
        · by_cases hb : b ∈ ts
          · rw [gt b hb] at e; exact e
          · rw [gn b hb] at e; exact s b u (x1.le b u e)
      have pr : Paired (fun (t : Addr) (q : Key × V) => G' t = some (.tup [kV q.1, q.2])) ts kvs := by
        have aux : ∀ {as : List Addr} {ks : List (Key × V)}, (∀ b ∈ as, b ∈ ts) → Paired (fun (t : Addr) (q : Key × V) => H' t = some (.tup [kV q.1, q.2])) as ks → Paired (fun (t : Addr) (q : Key × V) => G' t = some (.tup [kV q.1, q.2])) as ks := by
          intro as ks hs hp
          induction hp with
          | nil => exact .nil
          | cons h r ih => exact .cons (by rw [gt _ (hs _ List.mem_cons_self)]; exact h) (ih fun b hb => hs b (List.mem_cons_of_mem _ hb))
        exact aux (fun _ h => h) n5
      exact q p _ G' H' (x1.trans x2) (x1.free n1) (by rw [gn p n3]; exact x1.le.free n1) n4 (kvD_reps pr (rs.mono x2.gg))
/-- a method of a pack -/
theorem evd_meth {m : Str} {P : List Da → Da → Prop} {E0 : XK} {tar : TA} {cs : List (Str × Str)} (ho : Evd K to δ (.pck cs)) (ha : EvdA K tar δ ds) (hm : m ≠ "pack_rows") (p : P (.pck cs :: ds) d) : Evd K (tMeth (PC K) m (PuSp K P) [] E0 to tar) δ d := fun bp He bx σ G H le E Q q =>
  ho bp He bx σ G H le E _ fun v G1 H1 x1 r1 => by
    have r1' := r1
    cases r1' with
    | @pck a dx dd o _ h1 h2 h3 =>
      refine ⟨a, dx, _, rfl, x1.le _ _ h1, ?_, ha bp He bx σ G1 H1 x1.le (E.lift x1) _ fun vs G2 H2 x2 r2 => ⟨G2, .pck cs :: ds, d, x2.le, ?_, p, fun v G3 H3 x3 r3 => q v G3 H3 ((x1.trans x2).trans x3) r3⟩⟩
      · show List.lookup m [(("pack_rows" : Str), V.ref dd)] = none
        have e : (m == ("pack_rows" : Str)) = false := beq_eq_false_iff_ne.mpr hm
        simp only [List.lookup, e]
      · rw [List.append_nil]
        exact .cons (r1.mono x2.gg) r2
/-- len(pack) -/
theorem evd_lenOwn {P : List Da → Da → Prop} {cs : List (Str × Str)} {n : Nat} (ho : Evd K to δ (.pck cs)) (p : P [.pck cs] (.int n)) (hn : n < 2 ^ 63) : Evd K (tLenOwn K (PC K) (PuSp K P) to) δ (.int n) := fun bp He bx σ G H le E Q q =>
  ho bp He bx σ G H le E _ fun v G1 H1 x1 r1 => by
    have r1' := r1
    cases r1' with
    | @pck a dx dd o _ h1 h2 h3 =>
      exact ⟨a, dx, _, rfl, x1.le _ _ h1, G1, [.pck cs], .int n, x1.le, .cons r1 .nil, p, fun v G2 H2 x2 r2 => ⟨n, r2.intI, by omega, by omega, q _ G2 H2 (x1.trans x2) (.int _)⟩⟩
end
end R
set_option maxHeartbeats 4123456
/-! R8: isinstance, ==, built-in names. -/
namespace R
open PySem L2
section
variable {K : PySem.W.Frag} {δ δ1 : List En} {ta tb tc te tx tl to : TE} {t u : TT} {d d0 d1 d2 d3 : Da} {ds es : List Da} {r r' : R2}
def tyD : Da → String
  | .non => "NoneType" | .bl _ => "bool" | .int _ => "int" | .str _ => "str" | .lst _ => "list" | .tup _ => "tuple" | .dic _ => "dict" | .scr _ => "list" | .pck _ => "Pack"
/-- an instance of the class x: what the head tells -/
structure Own (K : PySem.W.Frag) (C : Addr) : Prop where
  cl : Cls K C
  ha : PySem.W.findIn K (.ref C) "__class__" = some (some (.builtin "object.__class__"))
  hn : PySem.W.specialIn K (.builtin "object.__class__") "__get__" = some (some (.builtin "getset_descriptor.__get__"))
  htk : PySem.W.takesIn K (.builtin "object.__class__") = some true
  hm : PySem.W.mroIn K C (.type "object") = some true
  self : PySem.W.kitOne K (.ref C) (.ref C) = some true
theorem tyx_of {G H : Hp} {v : V} (le : Same G H) (h : Rep K G v d) (hp : ∀ cs, d ≠ .pck cs) : TyX K H v (.type (tyD d)) := by
  cases h with
  | non => exact .base .non
  | bl b => exact .base (.bl b)
  | int i => exact .base (.int i)
  | str x => exact .base (.str x)
  | lst h _ => exact .base (.lst (le _ _ h))
  | tup h _ =>
    rcases h with (h | ⟨o, h⟩) | ⟨o, its, n, h1, h2, _⟩
    · exact .base (.tup (le _ _ h))
    · exact .fTuple (le _ _ h)
    · exact .kTuple h1 h2
  | dic h _ => exact .fDict (le _ _ h)
  | pck h1 h2 h3 => exact absurd rfl (hp _)
  | scr h =>
    rcases h with (h | ⟨o, h⟩) | ⟨o, its, n, h1, h2, _⟩
    · exact .base (.lst (le _ _ h))
    · exact .base (.frz (le _ _ h))
    · exact .kList h1 h2
theorem evd_isi {n : String} {b : Bool} (h : Evd K tx δ d) (e : kitB (tyD d) n = some b) (hp : ∀ cs, d ≠ .pck cs) : Evd K (tCB (rIsi K) (tCons tx (tCons (tC (.ty n)) tNil))) δ (.bl b) := fun bp He bx σ G H le E Q q =>
  h bp He bx σ G H le E _ fun v G1 H1 x1 r1 => ⟨v, .ty n, _, _, b, rfl, .ty n, tyx_of x1.le r1 hp, kit_ty e, q _ G1 H1 x1 (.bl b)⟩
theorem evd_isiPack {cs : List (Str × Str)} (o : Own K (PC K)) (h : Evd K tx δ (.pck cs)) : Evd K (tCB (rIsi K) (tCons tx (tCons (tC (.ref (PC K))) tNil))) δ (.bl true) := fun bp He bx σ G H le E Q q =>
  h bp He bx σ G H le E _ fun v G1 H1 x1 r1 => by
    have r1' := r1
    cases r1' with
    | @pck a dx dd ob _ h1 h2 h3 => exact ⟨.ref a, .ref (PC K), .ref (PC K), .ref (PC K), true, rfl, .own _, .base (.ins (x1.le _ _ h1) o.cl o.ha o.hn o.htk o.hm), o.self, q _ G1 H1 x1 (.bl true)⟩
def isiAny (d : Da) : List String → Option Bool
  | [] => some false
  | n :: ns => match kitB (tyD d) n with
    | some true => some true
    | some false => isiAny d ns
    | none => none
theorem kitAny_of {d : Da} : ∀ {ns : List String} {b : Bool}, isiAny d ns = some b → PySem.W.kitAny K (.type (tyD d)) (ns.map Value.type) = some b
  | [], b, e => by cases e; exact kitAny_nil
  | n :: ns, b, e => by
    unfold isiAny at e
    cases q : kitB (tyD d) n with
    | none => rw [q] at e; cases e
    | some c =>
      rw [q] at e
      rw [List.map_cons]
      cases c with
      | true => cases e; exact kitAny_cons (kit_ty q) (fun z => nomatch z) (fun _ => rfl)
      | false => exact kitAny_cons (kit_ty q) (fun _ => kitAny_of e) (fun z => nomatch z)
theorem clsv_map : ∀ ns : List String, Paired ClsV (ns.map V.ty) (ns.map Value.type)
  | [] => .nil
  | n :: ns => .cons (.ty n) (clsv_map ns)
/-- isinstance(x, (list, tuple)) -/
theorem evd_isiT2 {m n : String} {b : Bool} (h : Evd K tx δ d) (e : isiAny d [m, n] = some b) (hp : ∀ cs, d ≠ .pck cs) : Evd K (tCB (rIsiT K) (tCons tx (tCons (tTup (tCons (tC (.ty m)) (tCons (tC (.ty n)) tNil))) tNil))) δ (.bl b) := fun bp He bx σ G H le E Q q =>
  h bp He bx σ G H le E _ fun v G1 H1 x1 r1 => ⟨len_line (by show 2 ≤ 100000; omega), fun p hp' => by
    have x2 : Ext none G1 H1 (upd G1 p (.tup [.ty m, .ty n])) (upd H1 p (.tup [.ty m, .ty n])) := Ext.new x1.le hp'
    exact ⟨v, p, [.ty m, .ty n], _, _, b, rfl, upd_same, clsv_map [m, n], tyx_of x2.le (r1.mono x2.gg) hp, kitAny_of e, q _ _ _ (x1.trans x2) (.bl b)⟩⟩
theorem evd_isi_ {n : String} (b : Bool) (h : Evd K tx δ d) (e : kitB (tyD d) n = some b := by decide +kernel) (hp : ∀ cs, d ≠ .pck cs := by exact (fun _ z => nomatch z)) : Evd K (tCB (rIsi K) (tCons tx (tCons (tC (.ty n)) tNil))) δ (.bl b) := evd_isi h e hp

/-! ### == of data at any depth -/
mutual
def toPy : Da → PyData
  | .non => .none | .bl b => .bool b | .int i => .int i | .str x => .str x
  | .lst ds => .list (toPys ds) | .tup ds => .tuple (toPys ds)
  | .dic _ => .none | .pck _ => .none | .scr ns => .list (ns.map .int)
def toPys : List Da → List PyData
  | [] => []
  | d :: ds => toPy d :: toPys ds
end
mutual
/-- no dict, no pack; texts of signs that there are -/
def pln : Da → Bool
  | .non => true | .bl _ => true | .int _ => true | .str x => PyData.strOk x
  | .lst ds => plns ds | .tup ds => plns ds
  | .dic _ => false | .pck _ => false | .scr _ => false
def plns : List Da → Bool
  | [] => true
  | d :: ds => pln d && plns ds
end
mutual
def dep : Da → Nat
  | .lst ds => deps ds + 1 | .tup ds => deps ds + 1
  | .non => 0 | .bl _ => 0 | .int _ => 0 | .str _ => 0 | .dic _ => 0 | .pck _ => 0 | .scr _ => 0
def deps : List Da → Nat
  | [] => 0
  | d :: ds => max (dep d) (deps ds)
end
mutual
theorem dp_of {G H : Hp} (le : Same G H) : ∀ {v : V} {d : Da}, Rep K G v d → pln d = true → Dp K H v (toPy d)
  | _, _, .non, _ => .non
  | _, _, .bl b, _ => .bl b
  | _, _, .int i, _ => .int i
  | _, _, .str x, _ => .str x
  | _, _, .lst h r, p => .lst (SqL.of (le _ _ h)) (dps_of le r p)
  | _, _, .tup h r, p => .tup (sqT_same le h) (dps_of le r p)
  | _, _, .dic h r, p => by cases p
  | _, _, .pck _ _ _, p => by cases p
  | _, _, .scr _, p => by cases p
theorem dps_of {G H : Hp} (le : Same G H) : ∀ {vs : List V} {ds : List Da}, Reps K G vs ds → plns ds = true → DpAll K H vs (toPys ds)
  | _, _, .nil, _ => .nil
  | _, _, .cons h r, p => .cons (dp_of le h (Bool.and_eq_true_iff.mp p).1) (dps_of le r (Bool.and_eq_true_iff.mp p).2)
end
mutual
theorem lay_of : ∀ d : Da, pln d = true → (toPy d).canLay0 = true
  | .non, _ => rfl
  | .bl b, _ => rfl
  | .int i, _ => rfl
  | .str x, h => h
  | .lst ds, h => lays_of ds h
  | .tup ds, h => lays_of ds h
  | .dic _, h => by cases h
  | .pck _, h => by cases h
  | .scr _, h => by cases h
theorem lays_of : ∀ ds : List Da, plns ds = true → PyData.canLayAll0 (toPys ds) = true
  | [], _ => rfl
  | d :: ds, h => by
    have h2 := Bool.and_eq_true_iff.mp h
    show (PyData.canLay0 (toPy d) && PyData.canLayAll0 (toPys ds)) = true
    rw [lay_of d h2.1, lays_of ds h2.2]; rfl
end
mutual
theorem dep_of : ∀ d : Da, pln d = true → (toPy d).depth = dep d
  | .non, _ => rfl
  | .bl b, _ => rfl
  | .int i, _ => rfl
  | .str x, h => rfl
  | .lst ds, h => congrArg (· + 1) (deps_of ds h)
  | .tup ds, h => congrArg (· + 1) (deps_of ds h)
  | .dic _, h => by cases h
  | .pck _, h => by cases h
  | .scr _, h => by cases h
theorem deps_of : ∀ ds : List Da, plns ds = true → PyData.depthAll (toPys ds) = deps ds
  | [], _ => rfl
  | d :: ds, h => by
    have h2 := Bool.and_eq_true_iff.mp h
    show max (PyData.depth (toPy d)) (PyData.depthAll (toPys ds)) = _
    rw [dep_of d h2.1, deps_of ds h2.2]; rfl
end
theorem shaped_of {d : Da} (h : pln d = true) (hd : dep d ≤ 64) : SeqAt.shaped (toPy d) = true := by
  unfold SeqAt.shaped
  rw [lay_of d h, dep_of d h, decide_eq_true hd]; rfl
theorem op2_eqD (h1 : pln d1 = true) (h2 : pln d2 = true) (l1 : dep d1 ≤ 64) (l2 : dep d2 ≤ 64) : Op2 K (rEqD K) d1 d2 (.bl (PyData.eqv (toPy d1) (toPy d2))) := fun v1 v2 G H le r1 r2 Q q =>
  ⟨_, _, dp_of le r1 h1, dp_of le r2 h2, shaped_of h1 l1, shaped_of h2 l2, q _ G H (Ext.refl le) (.bl _)⟩
theorem op2_neD (h1 : pln d1 = true) (h2 : pln d2 = true) (l1 : dep d1 ≤ 64) (l2 : dep d2 ≤ 64) : Op2 K (rNeD K) d1 d2 (.bl (!PyData.eqv (toPy d1) (toPy d2))) := fun v1 v2 G H le r1 r2 Q q =>
  ⟨_, _, dp_of le r1 h1, dp_of le r2 h2, shaped_of h1 l1, shaped_of h2 l2, q _ G H (Ext.refl le) (.bl _)⟩
theorem op2_eqSame (h : pln d = true) (l : dep d ≤ 64) : Op2 K (rEqD K) d d (.bl true) := by
  have e := op2_eqD (K := K) h h l l
  rwa [SeqAt.eqv_refl _ (lay_of d h)] at e
theorem op2_neSame (h : pln d = true) (l : dep d ≤ 64) : Op2 K (rNeD K) d d (.bl false) := by
  have e := op2_neD (K := K) h h l l
  rwa [SeqAt.eqv_refl _ (lay_of d h)] at e
/-- == [] -/
theorem op2_eqNil (h : plns ds = true) (l : deps ds ≤ 63) : Op2 K (rEqD K) (.lst ds) (.lst []) (.bl ds.isEmpty) := by
  have e := op2_eqD (K := K) (d1 := .lst ds) (d2 := .lst []) h rfl (by show deps ds + 1 ≤ 64; omega) (by decide)
  have z : PyData.eqv (toPy (.lst ds)) (toPy (.lst [])) = ds.isEmpty := by cases ds <;> rfl
  rwa [z] at e
end
/-! ### names of built-ins -/
theorem bt_isinstance : bootBuiltins "isinstance" = some (.builtin "isinstance") := by decide +kernel
theorem bt_all : bootBuiltins "all" = some (.builtin "all") := by decide +kernel
theorem bt_any : bootBuiltins "any" = some (.builtin "any") := by decide +kernel
theorem bt_max : bootBuiltins "max" = some (.builtin "max") := by decide +kernel
theorem bt_min : bootBuiltins "min" = some (.builtin "min") := by decide +kernel
theorem bt_sum : bootBuiltins "sum" = some (.builtin "sum") := by decide +kernel
theorem bt_len : bootBuiltins "len" = some (.builtin "len") := by decide +kernel
theorem bt_repr : bootBuiltins "repr" = some (.builtin "repr") := by decide +kernel
theorem bt_sorted : bootBuiltins "sorted" = some (.builtin "sorted") := by decide +kernel
theorem bt_int : bootBuiltins "int" = some (.type "int") := by decide +kernel
theorem bt_bool : bootBuiltins "bool" = some (.type "bool") := by decide +kernel
theorem bt_str : bootBuiltins "str" = some (.type "str") := by decide +kernel
theorem bt_list : bootBuiltins "list" = some (.type "list") := by decide +kernel
theorem bt_tuple : bootBuiltins "tuple" = some (.type "tuple") := by decide +kernel
theorem bt_dict : bootBuiltins "dict" = some (.type "dict") := by decide +kernel
theorem bt_set : bootBuiltins "set" = some (.type "set") := by decide +kernel
end R
set_option maxHeartbeats 4123456
/-! R9: lists or tuples walked, len of a dict, repr (it wants to know that no repr is under way), the law's end with that. -/
namespace R
open PySem PySem.Spec PyProof.Rows L2
/-- a list or a tuple -/
def iSeq (K : PySem.W.Frag) (tl : TE) : TI := fun σ H R => iList K tl σ H R ∨ iTup K tl σ H R
theorem pi_seq {X : Cx} {tg l : Expr} {tl : TE} (h : PE X l tl) : PI X tg l (iSeq X.K tl) := ⟨fun pins s σ H R I q => by
  rcases q with q | q
  · exact (pi_list h).run pins s σ H R I q
  · exact (pi_tup h).run pins s σ H R I q⟩
/-- data as a list, as a tuple -/
def seqD (b : Bool) (ds : List Da) : Da := if b then .lst ds else .tup ds
theorem src_seq {K : PySem.W.Frag} {δ : List En} {tl : TE} {b : Bool} {ds : List Da} (h : Evd K tl δ (seqD b ds)) : Srcd K (iSeq K tl) δ ds := fun bp He bx σ G H le E R q => by
  cases b with
  | true => exact .inl (src_list h bp He bx σ G H le E R q)
  | false => exact .inr (src_tup h bp He bx σ G H le E R q)
theorem src_seqL {K : PySem.W.Frag} {δ : List En} {tl : TE} {ds : List Da} (h : Evd K tl δ (.lst ds)) : Srcd K (iSeq K tl) δ ds := src_seq (b := true) h
/-- len of a dict that is locked -/
def rLenF : List V → Hp → VK → Prop := fun xs H Q => ∃ d o kvs, xs = [.ref d] ∧ H d = some (.frz o (.dK kvs)) ∧ Q (.int kvs.length) H
theorem call_lenF {X : Cx} : CallR X (.builtin "len") rLenF := by
  intro pins s σ H xs us Q I r h
  obtain ⟨a, o, kvs, rfl, hd, q⟩ := h
  obtain rfl := Vals.ref1 r
  obtain ⟨hS, _, _, _, _, vs, _, _, kv, hat⟩ := I.frzK hd
  obtain ⟨_, hz, _⟩ := I.hok a _ hd
  have lk : kvs.length = vs.length := Paired.length kv
  have hs : sizeLine = 16777216 := sizeLine_eq
  exact call_len_dict hS hat.dictOf (by omega) ⟨.int kvs.length, H, I.tok _, ⟨_, by rw [lk]⟩, q⟩
section
variable {K : PySem.W.Frag} {δ : List En} {ta : TE} {d : Da} {ds : List Da} {kds : List (Key × Da)}
theorem evd_lenF (h : Evd K ta δ (.dic kds)) : Evd K (tCB rLenF (tCons ta tNil)) δ (.int kds.length) := fun bp He bx σ G H le E Q q =>
  h bp He bx σ G H le E _ fun v G1 H1 x1 r1 => by
    cases r1 with
    | dic hx rs => exact ⟨_, _, _, rfl, x1.le _ _ hx, by rw [rs.len]; exact q _ G1 H1 x1 (.int _)⟩
end

/-! ### repr -/
def rRepr (K : PySem.W.Frag) : List V → Hp → VK → Prop := fun vs H Q => ∃ (x : V) (d : PyData), vs = [x] ∧ Dp K H x d ∧ d.showable = true ∧ d.hasDict = false ∧ d.depth ≤ 40 ∧ d.shown.length ≤ 16777216 ∧ Q (.str d.shown) H
theorem call_reprD {X : Cx} (hg : X.A.guards = some []) (hu : X.A.units + 64 < cLine) : CallR X (.builtin "repr") (rRepr X.K) := by
  intro pins s σ H xs us Q I r h
  obtain ⟨x, d, rfl, hd, h1, h2, h3, h4, q⟩ := h
  have h4 : d.shown.length ≤ sizeLine := by rw [sizeLine_eq]; exact h4
  obtain ⟨u, rfl, rx⟩ := vals1 r
  obtain ⟨as, rd⟩ := Dp.reads I d x u hd rx
  cases rd with
  | none => exact PySem.P.repr_of_none ⟨.str _, H, I.tok _, ⟨_, rfl⟩, q⟩
  | bool b => exact PySem.P.repr_of_bool ⟨.str _, H, I.tok _, ⟨_, rfl⟩, q⟩
  | int i t => exact PySem.P.repr_of_int (of_decide_eq_true h1) ⟨.str _, H, I.tok _, ⟨_, rfl⟩, q⟩
  | str y t => exact PySem.P.repr_of_str ⟨.str _, H, I.tok _, ⟨_, rfl⟩, q⟩ h4
  | @list a o vs n ys as' e1 e2 e3 e4 =>
    exact repr_of_reads' (h₀ := s.heap) (.list e1 e2 e3 e4) h1 (PyData.noDict_hsm h2) hg (by omega) (fun _ _ e => e) (fun h' u tk k => ⟨.str _, H, I.kept k, ⟨_, rfl⟩, q⟩) h4
  | @tuple a o vs n ys as' e1 e2 e3 e4 =>
    exact repr_of_reads' (h₀ := s.heap) (.tuple e1 e2 e3 e4) h1 (PyData.noDict_hsm h2) hg (by omega) (fun _ _ e => e) (fun h' u tk k => ⟨.str _, H, I.kept k, ⟨_, rfl⟩, q⟩) h4
  | dict e1 e2 e3 e4 e5 => cases h2
mutual
/-- how long a datum's repr is at most -/
def cost : Da → Nat
  | .non => 4 | .bl _ => 5 | .int i => (PyData.shown (.int i)).length | .str x => 10 * x.length + 2
  | .lst ds => costs ds + 3 | .tup ds => costs ds + 3
  | .dic _ => 0 | .pck _ => 0 | .scr _ => 0
def costs : List Da → Nat
  | [] => 0
  | d :: ds => cost d + 2 + costs ds
end
mutual
/-- ints of usual size -/
def shw : Da → Bool
  | .int i => decide (i.natAbs.log2 < 1920)
  | .lst ds => shws ds | .tup ds => shws ds
  | .non => true | .bl _ => true | .str _ => true | .dic _ => false | .pck _ => false | .scr _ => false
def shws : List Da → Bool
  | [] => true
  | d :: ds => shw d && shws ds
end
theorem shown_sum : ∀ ds : List Da, ((PyData.shownAll (toPys ds)).map (·.length)).sum + 2 * (PyData.shownAll (toPys ds)).length ≤ costs ds → (listText (PyData.shownAll (toPys ds))).length ≤ costs ds + 3 ∧ (tupleText (PyData.shownAll (toPys ds))).length ≤ costs ds + 3 := fun ds h =>
  ⟨Nat.le_trans (listText_len_le _) (by omega), Nat.le_trans (tupleText_len_le _) (by omega)⟩
mutual
theorem shown_le : ∀ d : Da, pln d = true → (toPy d).shown.length ≤ cost d
  | .non, _ => by decide
  | .bl true, _ => by decide
  | .bl false, _ => by decide
  | .int i, _ => by
    have e : cost (.int i) = (PyData.shown (.int i)).length := by rw [cost]
    rw [e]
    exact Nat.le_refl _
  | .str x, h => by
    simp only [toPy, PyData.shown, cost]
    refine StrLaws.reprText_len x fun c hc => ?_
    have h2 : x.cps.all (· < 0x110000) = true := h
    have h3 := Array.all_eq_true'.mp h2 c (Array.mem_toList_iff.mp hc)
    have h4 := of_decide_eq_true h3
    omega
  | .lst ds, h => by
    simp only [toPy, PyData.shown, cost]
    exact (shown_sum ds (showns_le ds h)).1
  | .tup ds, h => by
    simp only [toPy, PyData.shown, cost]
    exact (shown_sum ds (showns_le ds h)).2
  | .dic _, h => by cases h
  | .pck _, h => by cases h
  | .scr _, h => by cases h
theorem showns_le : ∀ ds : List Da, plns ds = true → ((PyData.shownAll (toPys ds)).map (·.length)).sum + 2 * (PyData.shownAll (toPys ds)).length ≤ costs ds
  | [], _ => Nat.le_refl _
  | d :: ds, h => by
    have h2 := Bool.and_eq_true_iff.mp h
    have a := shown_le d h2.1
    have b := showns_le ds h2.2
    simp only [toPys, PyData.shownAll, List.map_cons, List.sum_cons, List.length_cons, costs]
    omega
end
mutual
theorem showable_of : ∀ d : Da, shw d = true → (toPy d).showable = true ∧ (toPy d).hasDict = false
  | .non, _ => ⟨rfl, rfl⟩
  | .bl b, _ => ⟨rfl, rfl⟩
  | .int i, h => ⟨h, rfl⟩
  | .str x, h => ⟨rfl, rfl⟩
  | .lst ds, h => showables_of ds h
  | .tup ds, h => showables_of ds h
  | .dic _, h => by cases h
  | .pck _, h => by cases h
  | .scr _, h => by cases h
theorem showables_of : ∀ ds : List Da, shws ds = true → PyData.showableAll (toPys ds) = true ∧ PyData.hasDictAll (toPys ds) = false
  | [], _ => ⟨rfl, rfl⟩
  | d :: ds, h => by
    have h2 := Bool.and_eq_true_iff.mp h
    have a := showable_of d h2.1
    have b := showables_of ds h2.2
    refine ⟨?_, ?_⟩
    · show (PyData.showable (toPy d) && PyData.showableAll (toPys ds)) = true
      rw [a.1, b.1]; rfl
    · show (PyData.hasDict (toPy d) || PyData.hasDictAll (toPys ds)) = false
      rw [a.2, b.2]; rfl
end
/-- data whose repr is short -/
structure Rpr (d : Da) : Prop where
  p : pln d = true
  s : shw d = true
  l : dep d ≤ 40
  c : cost d ≤ 16777216
theorem opn_repr {K : PySem.W.Frag} {d : Da} (h : Rpr d) : Opn K (rRepr K) [d] (.str (toPy d).shown) := fun vs G H le rs Q q => by
  cases rs with
  | cons r1 r2 =>
    cases r2
    exact ⟨_, _, rfl, dp_of le r1 h.p, (showable_of d h.s).1, (showable_of d h.s).2, by rw [dep_of d h.p]; exact h.l, Nat.le_trans (shown_le d h.p) h.c, q _ G H (Ext.refl le) (.str _)⟩
theorem Rpr.shaped {d : Da} (h : Rpr d) : dep d ≤ 64 := Nat.le_trans h.l (by decide)

/-! ### a def that may ask for repr: no repr is under way -/
structure FnOkG (P : Program) (w : World) (K : PySem.W.Frag) (mg : Str → Option Value) (base : Heap) (CX : CXT) (k : Nat) (f : Addr) (fd : FuncData) (ps : List Str) (sp : Sp) : Prop where
  len : ∀ vs H Q E, sp vs H Q E → vs.length = ps.length
  run : ∀ (A : Around) (outer : List Env) (s : Shared) (H : Hp) (args : Args) (us : List Value) (vs : List V) (Q : VK) (E : XK), A.guards = some [] → Room k A → Env0 P w K mg base A outer s H →
    BindsTo s fd args (ps.zip us) → Vals vs us → sp vs H Q E → codeAny (model P w) A (.call (.ref f) args) (CR CX outer P w H s Q E) s
/-- .. from what a def promises around any stack -/
theorem FnOk.g {P : Program} {w : World} {K : PySem.W.Frag} {mg : Str → Option Value} {base : Heap} {CX : CXT} {k : Nat} {f : Addr} {fd : FuncData} {ps : List Str} {sp : Sp} (F : FnOk P w K mg base CX k f fd ps sp) : FnOkG P w K mg base CX k f fd ps sp :=
  ⟨F.len, fun A outer s H args us vs Q E _ hr he hb hv hs => F.run A outer s H args us vs Q E hr he hb hv hs⟩
section
variable {P : Program} {w : World} {K : PySem.W.Frag} {mg : Str → Option Value} {base : Heap} {x qual : Str} {params : Arguments} {body : List Stmt} {scope : Scope} {dvs : List V} {kws : List (Str × V)} {f : Addr} {fd : FuncData}
theorem FunD.okG {CX : CXT} {N ps : List Str} {k : Nat} {sp : Sp} (F : FunD K x qual params body scope dvs kws f fd) (S : FnScope N ps scope) (len : ∀ vs H Q E, sp vs H Q E → vs.length = ps.length)
    (hbody : ∀ (cdv : Value) (A : Around) (outer : List Env) (s : Shared) (H : Hp) (vs : List V) (Q : VK) (E : XK), A.guards = some [] → Room k (A.deeper (envOfC qual scope s.heap.objs.size f cdv)) → sp vs H Q E →
      ∃ t, PSs (cxOf CX P w K mg base N qual scope f cdv A outer s H E) body t ∧ t { nx := fun _ H' => Q .non H', rt := Q } (L2.start N vs) H) : FnOkG P w K mg base CX (k + 1) f fd ps sp := by
  obtain ⟨oc, od, dV, kV, doc, pm, an, cdv, ct, osl, rfl, lk, hcd, _, _⟩ := F.ex
  refine ⟨len, fun A outer s H args us vs Q E hgd hr e0 hb rv hs => ?_⟩
  have keep : ∀ b o, base.get? b = some o → s.heap.get? b = some o := fun b o e => (e0.bs b o e).1
  have KX : K.In s.heap := e0.mod.kin.keeps keep
  have kinds : ∀ y ∈ ps.zip us, scope.names.lookup y.1 = some .local ∨
      (scope.names.lookup y.1 = some .cell ∧ ((cellsFrom (s.heap.objs.size + 1) scope.names []).lookup y.1).isSome = true) := by
    rintro ⟨n, v⟩ hy
    rcases S.par n (List.of_mem_zip hy).1 with q | q
    · exact .inl q
    · exact .inr ⟨q, PySem.W.cellsFrom_some _ _ _ (.inl q)⟩
  refine codeAny_call_function hr.depth (KX _ _ lk) rfl S.co S.gen rfl
    (PySem.W.codeRec_of KX hcd) (hb _ _ _ _ (wpAny_newFunctionEnv_cells S.kind kinds fun env he s1 x => ?_))
  subst he
  refine ⟨(e0.mod.nolimit.keeps keep).keeps x.toInCall.keep, codeAny_func ?_⟩
  obtain ⟨t, ht, hq⟩ := hbody cdv A outer s H vs Q E hgd (hr.deeper _) hs
  have I0 := inv_start (CX := CX) (qual := qual) (f := f) (cd := cdv) (E := E) S hr.hd e0 (len _ _ _ _ hs) rv x
  refine wpAny_mono (ht.run [] s1 (L2.start N vs) H _ I0 hq) (fun fl s' hs => ?_) fun _ _ z => z
  cases fl with
  | ret u =>
    obtain ⟨v, σ', H', J, rv', q⟩ := hs
    exact ⟨v, H', J.os, J.bare, J.base, J.hok, rv', q⟩
  | next =>
    obtain ⟨σ', H', J, q⟩ := hs
    exact ⟨V.non, H', J.os, J.bare, J.base, J.hok, (rfl : RelV V.non Value.none), q⟩
  | brk =>
    obtain ⟨_, _, _, q⟩ := hs
    exact False.elim q
  | cont =>
    obtain ⟨_, _, _, q⟩ := hs
    exact False.elim q
end
section
variable {X : Cx} {CX : CXT} {k : Nat} {f : Addr} {fd : FuncData} {ps : List Str} {sp : Sp} {E : XK} {x : Str} {p pos : Pos} {e : Expr} {es : List Expr} {t : TA}
/-- f(e, ..) of such a def -/
theorem pe_callG (F : FnOkG X.prog X.w X.K X.mg X.base CX k f fd ps sp) (hgd : X.A.guards = some []) (hr : Room k X.A) (hg : Gl X x) (hm : X.mg x = some (.ref f)) (hk : PySem.W.keepIn X.K (.ref f) = true)
    (hb : Binds X.K fd ps []) (hx : Passes CX X E) (ha : PA X (e :: es) t) (hdb : (x == ("__debug__" : Str)) = false := by decide)
    (he : starEach (e :: es) X.env = (false, eval e X.env) :: starEach es X.env := by rfl) (hpl : (backTo pos (starEach es X.env)).any (·.1) = false := by rfl) :
    PE X (.Call (.Name x p) (e :: es) [] pos) (tCall sp [] E t) := by
  refine ⟨fun pins s σ H Q I h => wpAny_Call_Name_kw (ld_glob I hg hm ?_ hdb)⟩
  refine PySem.W.callWith_K (h₀ := X.base) I.ok.mod.kin hk (thn (ha.run pos pins s σ H _ I h) fun us s1 ⟨vs, H1, I1, r, q⟩ => ⟨I1.kIn, ?_⟩) he hpl
  have q : sp (vs ++ []) H1 Q E := q
  rw [List.append_nil] at q
  have hl : us.length = ps.length := by rw [← r.length]; exact F.len _ _ _ _ q
  have bd := hb s1 us I1.kIn (by rw [List.append_nil]; exact hl)
  rw [List.append_nil] at bd
  refine wpAny_call (codeAny_mono (F.run X.A X.stack s1 H1 ⟨us, []⟩ us vs Q E hgd hr I1.env0 bd r q) fun r s' hq => ?_)
  cases r with
  | error e => exact hx pins σ H1 s1 e s' I1 hq
  | ok fl => cases fl with
    | ret u => exact I1.after hq
    | _ => exact False.elim hq
end
/-- the law's end from such a promise (no repr is under way where the law is called) -/
theorem law_callG {P : Program} {w : World} {K : PySem.W.Frag} {mg mb : Str → Option Value} {CX : CXT} {k : Nat} {fa a : Addr} {fd : FuncData} {x : Str} {sp : Sp} {s₁ : Shared} {vs : List Value} {ns : List Int}
    (KX : K.In s₁.heap) (hns : s₁.heap.Ns mainGlobals mg) (hb : s₁.heap.Ns builtinsNs mb) (hbb : ∀ x : Str, x ≠ "__name__" → mb x = bootBuiltins x) (hlim : s₁.heap.NoLimit) (hg : s₁.gens = #[])
    (ha : s₁.heap.get? a = some { cls := .type "list", data := .seq vs.toArray }) (hi : IntsAre vs ns) (hl : ns.length ≤ sizeLine) (hr : Room k callerA)
    (F : ∀ base : Heap, K.In base → base.Ns mainGlobals mg → FnOkG P w K mg base CX k fa fd [x] sp) (hbind : ∀ (s : Shared) (u : Value), BindsTo s fd ⟨[u], []⟩ [(x, u)])
    (hsp : ∀ H : Hp, Only H → SqL K H a (ns.map V.int) → sp [.ref a] H (fun v _ => v = .bl true) fun _ _ _ => False)
    (hCX : ∀ H e s', CX [] H s₁ (fun _ _ _ => False) e s' → False) :
    codeAny (model P w) callerA (.call (.ref fa) ⟨[.ref a], []⟩) (fun r s' => r = .ok (.ret (.bool true)) ∧ OldK s₁.heap s'.heap ∧ s'.os = s₁.os ∧ AllBare s'.gens) s₁ := by
  have rv := vals_ints hi
  have lv : vs.length = ns.length := hi.length
  -- whatever is tracked is the script, beside the written part
  have go : ∀ H : Hp, Only H → SqL K H a (ns.map V.int) → HOk P w H s₁.heap → (∀ b u, H b = some u → b = a ∧ K.lookup a = none) →
      codeAny (model P w) callerA (.call (.ref fa) ⟨[.ref a], []⟩)
        (fun r s' => r = .ok (.ret (.bool true)) ∧ OldK s₁.heap s'.heap ∧ s'.os = s₁.os ∧ AllBare s'.gens) s₁ := by
    intro H only hS ok alone
    have dict_free : ∀ {b : Addr} {m : Str → Option Value}, s₁.heap.Ns b m → (hidT s₁.heap H).Ns b m := by
      rintro b m ⟨o, es, ep, e, d, rest⟩
      refine ⟨o, es, ep, hidT_get e ?_, d, rest⟩
      cases q : H b with
      | none => rfl
      | some u =>
        obtain ⟨rfl, _⟩ := alone b u q
        rw [ha] at e
        cases e
        exact nomatch (show Data.seq vs.toArray _ = Data.dict es ep from d)
    have KB : K.In (hidT s₁.heap H) := fun b o e => by
      refine hidT_get (KX b o e) ?_
      cases q : H b with
      | none => rfl
      | some u =>
        obtain ⟨rfl, z⟩ := alone b u q
        rw [z] at e; cases e
    obtain ⟨mc, l1, l2⟩ := hlim
    have md : Mod K mg (hidT s₁.heap H) := ⟨KB, dict_free hns, ⟨mb, dict_free hb, hbb⟩, ⟨mc, dict_free l1, l2⟩⟩
    have en : Env0 P w K mg (hidT s₁.heap H) callerA [] s₁ H :=
      ⟨rfl, md, fun b o e => of_hidT e, Nat.le_of_eq (hidT_size _ _), trivial, (fun b hb => nomatch (show b ∈ ([] : List Addr) from hb)), ok, .of_eq hg⟩
    refine codeAny_mono ((F _ KB (dict_free hns)).run callerA [] s₁ H ⟨[.ref a], []⟩ [.ref a] [.ref a] _ _ rfl hr en
      (hbind s₁ (.ref a)) (.cons rfl .nil) (hsp H only hS)) fun r s' h => ?_
    match r, h with
    | .error e, h => exact (hCX H e s' h).elim
    | .ok (.ret u), ⟨v, H', os, bare, un, ok', rel, q⟩ =>
      have q : v = .bl true := q
      subst q
      obtain rfl : u = Value.bool true := rel
      refine ⟨rfl, OldK.of_keep fun b o e => ?_, os, bare⟩
      rcases only b with z | ⟨ob, xs, z⟩
      · exact un.keep b o e z (fun y => nomatch (show b ∈ ([] : List Addr) from y)) (fun y => nomatch y)
      · have e1 := (ok b _ z).1
        have e2 := (ok' b _ (un.frzs b ob _ z)).1
        rw [e] at e1
        cases e1
        exact e2
  by_cases hk : ∃ o, K.lookup a = some o
  · obtain ⟨o, hk⟩ := hk
    have e := KX a o hk
    rw [ha] at e
    cases e
    exact go (fun _ => none) (fun _ => .inl rfl)
      (.inr ⟨_, vs.toArray, _, hk, rfl, rfl, rfl, by rw [List.size_toArray, lv]; exact hl, by simpa using rv⟩)
      (fun b u z => nomatch (show (none : Option HO) = some u from z)) (fun b u z => nomatch (show (none : Option HO) = some u from z))
  · have hk : K.lookup a = none := by
      cases q : K.lookup a with
      | none => rfl
      | some o => exact absurd ⟨o, q⟩ hk
    let H1 : Hp := upd (fun _ => none) a (.frz { cls := .type "list", data := .seq vs.toArray } (.lst (ns.map V.int)))
    have off : ∀ b, b ≠ a → H1 b = none := fun b hb => upd_ne hb
    have at_ : H1 a = some (.frz { cls := .type "list", data := .seq vs.toArray } (.lst (ns.map V.int))) := upd_same
    refine go H1 (fun b => ?_) (.inl (.inr ⟨_, at_⟩)) (fun b u z => ?_) fun b u z => ?_
    · by_cases hb : b = a
      · exact .inr ⟨_, _, by rw [hb]; exact at_⟩
      · exact .inl (off b hb)
    · by_cases hb : b = a
      · rw [hb, at_] at z
        cases z
        rw [hb]
        exact ⟨ha, by rw [List.length_map]; exact hl, vs, _, rv, ha⟩
      · rw [off b hb] at z; cases z
    · by_cases hb : b = a
      · exact ⟨hb, hk⟩
      · rw [off b hb] at z; cases z
theorem walk_ofG {l : PySem.W.OpenLaw} {n k : Nat} {q : Program} {loose : List Str} {XP : (Str → Option Value) → Heap → Prop} {YP : World → Heap → Prop} {d : DefRec} {CX : World → CXT} {x : Str}
    (hn : l.most = some n) (hn2 : n ≤ sizeLine) (hdf : d.params.defaults = []) (hr : Room k callerA)
    (F : ∀ (w : World) (mg : Str → Option Value) (fa : Addr) (h : Heap), YP w h → h.Ns mainGlobals mg → mg d.name = some (.ref fa) →
      ∃ (K : PySem.W.Frag) (fd : FuncData) (sp : Sp), K.In h ∧ (∀ (s : Shared) (u : Value), BindsTo s fd ⟨[u], []⟩ [(x, u)]) ∧
        (∀ (H : Hp) (a : Addr) (ns : List Int), ns.length ≤ n → Only H → SqL K H a (ns.map V.int) → sp [.ref a] H (fun v _ => v = .bl true) fun _ _ _ => False) ∧
        ∀ base : Heap, K.In base → base.Ns mainGlobals mg → FnOkG l.prog w K mg base (CX w) k fa fd [x] sp)
    (hCX : ∀ (w : World) (H : Hp) (s : Shared) (e : Value) (s' : Shared), CX w [] H s (fun _ _ _ => False) e s' → False) :
    PySem.W.WalkO q loose XP YP l.row.toRowW d [] (fun f vs => PySem.call f vs) :=
  Att.attach_call hn hdf fun w s₀ s₁ mg mb fa o pm cd doc a vs ns G Y ho hd hcd hmg hobj hints hlen hg => by
    obtain ⟨K, fd, sp, KX, hb, hsp, hF⟩ := F w mg fa _ Y G.T.g hmg
    exact law_callG KX G.T.g G.T.b G.T.builtins G.T.nolimit hg hobj hints (Nat.le_trans hlen hn2) hr hF hb
      (fun H hO hS => hsp H a ns hlen hO hS) fun H e s' => hCX w H s₁ e s'
end R
set_option maxHeartbeats 4123456
/-! R10: drawing inside expressions, new boxes, packs made. -/
namespace R
open PySem L2
def SrcE (K : PySem.W.Frag) (wi : TI) (δ : List En) (c : Nat) (P : List Da → Prop) : Prop := ∀ bp He bx σ G H, Same G H → ER K bp He bx G H σ δ → ∀ R : It → Hp → Prop,
  (∀ J ds G' H', Ext bx G H G' H' → BoxStep bx H H' c → P ds → Walk J ds.length (fun H2 => Same G' H2) (YD K G' ds) → R J H') → wi σ H R
section
variable {K : PySem.W.Frag} {δ δ1 : List En} {ta tb tc te tx tl to : TE} {t u : TT} {d d0 d1 d2 d3 : Da} {ds es : List Da} {r r' : R2} {c c0 c1 c2 : Nat} {P P1 P2 : Da → Prop} {PA PL : List Da → Prop} {g : TG} {ts : TS} {D : Po}
theorem evd_isiN {n : String} (b : Bool) (ty : String) (h : Evd K tx δ d) (e1 : tyD d = ty := by rfl) (e2 : kitB ty n = some b := by decide +kernel) (hp : ∀ cs, d ≠ .pck cs := by exact (fun _ z => nomatch z)) : Evd K (tCB (rIsi K) (tCons tx (tCons (tC (.ty n)) tNil))) δ (.bl b) :=
  evd_isi h (by rw [e1]; exact e2) hp
theorem isiAny_ty {d' : Da} (e : tyD d = tyD d') : ∀ ns : List String, isiAny d ns = isiAny d' ns
  | [] => rfl
  | n :: ns => by unfold isiAny; rw [e, isiAny_ty e ns]
theorem evd_isiLT {b : Bool} (h : Evd K tx δ (seqD b ds)) : Evd K (tCB (rIsiT K) (tCons tx (tCons (tTup (tCons (tC (.ty "list")) (tCons (tC (.ty "tuple")) tNil))) tNil))) δ (.bl true) := by
  cases b with
  | true => exact evd_isiT2 h (show isiAny (.lst ds) _ = some true from (isiAny_ty (d := .lst ds) (d' := .lst []) rfl ["list", "tuple"]).trans (by decide +kernel)) (fun _ z => nomatch z)
  | false => exact evd_isiT2 h (show isiAny (.tup ds) _ = some true from (isiAny_ty (d := .tup ds) (d' := .tup []) rfl ["list", "tuple"]).trans (by decide +kernel)) (fun _ z => nomatch z)
theorem opn_lenSeq {b : Bool} : Opn K (rLenA K) [seqD b ds] (.int ds.length) := by
  cases b with
  | true => exact opn_lenL
  | false => exact opn_lenT
theorem eve_op {P : Da → Prop} (ha : Eve K ta δ c1 P1) (hb : Eve K tb (bmp c1 δ) c2 P2) (hr : ∀ d1 d2, P1 d1 → P2 d2 → ∃ d, Op2 K r d1 d2 d ∧ P d) : Eve K (tOp r ta tb) δ (c1 + c2) P := fun bp He bx σ G H le E Q q =>
  ha bp He bx σ G H le E _ fun v1 d1 G1 H1 x1 b1 r1 p1 => hb bp He bx σ G1 H1 x1.le (E.step x1 b1) _ fun v2 d2 G2 H2 x2 b2 r2 p2 => by
    obtain ⟨d, ho, p⟩ := hr d1 d2 p1 p2
    exact ho v1 v2 G2 H2 x2.le (r1.mono x2.gg) r2 Q fun v G3 H3 x3 r3 => q v d G3 H3 ((x1.trans x2).trans x3.none_to) ((b1.trans b2).trans (x3.boxStep 0)) r3 p
theorem eve_cb {r : List V → Hp → VK → Prop} {ta : TA} (ha : EveA K ta δ c PA) (hr : ∀ ds, PA ds → ∃ d, Opn K r ds d ∧ P d) : Eve K (tCB r ta) δ c P := fun bp He bx σ G H le E Q q =>
  ha bp He bx σ G H le E _ fun vs ds G1 H1 x1 b1 r1 p1 => by
    obtain ⟨d, ho, p⟩ := hr ds p1
    exact ho vs G1 H1 x1.le r1 Q fun v G3 H3 x3 r3 => q v d G3 H3 (x1.trans x3.none_to) (b1.trans (x3.boxStep 0)) r3 p
theorem eve_tup {ta : TA} (ha : EveA K ta δ c PA) (hl : ∀ ds, PA ds → ds.length ≤ 100000 ∧ P (.tup ds)) : Eve K (tTup ta) δ c P := fun bp He bx σ G H le E Q q =>
  ha bp He bx σ G H le E _ fun vs ds G1 H1 x1 b1 r1 p1 => ⟨by rw [r1.len]; exact len_line (hl ds p1).1, fun p hp => q (.ref p) (.tup ds) _ _ (x1.trans (Ext.new x1.le hp)) (b1.trans ((Ext.new (bx := none) x1.le hp).boxStep 0)) (.tup (SqT.of upd_same) (r1.mono (same_known (x1.le.free hp)))) (hl ds p1).2⟩
theorem eve_lst {ta : TA} (ha : EveA K ta δ c PA) (hl : ∀ ds, PA ds → ds.length ≤ 100000 ∧ P (.lst ds)) : Eve K (tLst ta) δ c P := fun bp He bx σ G H le E Q q =>
  ha bp He bx σ G H le E _ fun vs ds G1 H1 x1 b1 r1 p1 => ⟨by rw [r1.len]; exact len_line (hl ds p1).1, fun p hp => q (.ref p) (.lst ds) _ _ (x1.trans (Ext.new x1.le hp)) (b1.trans ((Ext.new (bx := none) x1.le hp).boxStep 0)) (.lst upd_same (r1.mono (same_known (x1.le.free hp)))) (hl ds p1).2⟩
theorem Eve.imp {P' : Da → Prop} {c' : Nat} (h : Eve K te δ c P) (l : c ≤ c') (k : ∀ d, P d → P' d) : Eve K te δ c' P' := (h.mono k).le l
theorem EveA.imp {ta : TA} {PA' : List Da → Prop} {c' : Nat} (h : EveA K ta δ c PA) (l : c ≤ c') (k : ∀ d, PA d → PA' d) : EveA K ta δ c' PA' := fun bp He bx σ G H le E Q q =>
  h bp He bx σ G H le E Q fun v d G' H' x b r p => q v d G' H' x (b.mono l) r (k d p)
/-- one argument that draws -/
theorem eveA_one (h : Eve K ta δ c P) : EveA K (tCons ta tNil) δ c (fun ds => ∃ d, ds = [d] ∧ P d) := fun bp He bx σ G H le E Q q =>
  h bp He bx σ G H le E _ fun v d G1 H1 x1 b1 r1 p1 => q [v] [d] G1 H1 x1 b1 (.cons r1 .nil) ⟨d, rfl, p1⟩
theorem eveA_two (h : Eve K ta δ c1 P1) (h2 : Eve K tb (bmp c1 δ) c2 P2) : EveA K (tCons ta (tCons tb tNil)) δ (c1 + c2) (fun ds => ∃ d e, ds = [d, e] ∧ P1 d ∧ P2 e) := fun bp He bx σ G H le E Q q =>
  h bp He bx σ G H le E _ fun v d G1 H1 x1 b1 r1 p1 => h2 bp He bx σ G1 H1 x1.le (E.step x1 b1) _ fun w e G2 H2 x2 b2 r2 p2 => q [v, w] [d, e] G2 H2 (x1.trans x2) (b1.trans b2) (.cons (r1.mono x2.gg) (.cons r2 .nil)) ⟨d, e, rfl, p1, p2⟩
/-- walked -/
theorem src_listE (h : Eve K tl δ c P) (hP : ∀ d, P d → ∃ ds, d = .lst ds ∧ PL ds) : SrcE K (iList K tl) δ c PL := fun bp He bx σ G H le E R q =>
  h bp He bx σ G H le E _ fun v d G1 H1 x1 b1 r1 p1 => by
    obtain ⟨ds, rfl, p⟩ := hP d p1
    cases r1 with
    | @lst a xs _ hx rs =>
      refine ⟨a, rfl, ⟨xs, SqL.of (x1.le _ _ hx)⟩, q _ ds G1 H1 x1 b1 p ?_⟩
      rw [← rs.len]
      refine (walk_list (K := K) (a := a) (xs := xs)).mono (fun H2 s => SqL.of (s _ _ hx)) fun i H2 x H3 hi s y => ?_
      obtain ⟨rfl, e⟩ := y
      obtain ⟨d, e2, r2⟩ := rs.getV e
      exact fun G2 s1 s2 => ⟨G2, d, e2, Ext.refl s2, r2.mono s1⟩
theorem src_rng1E {PN : Int → Prop} (h : Eve K te δ c P) (hP : ∀ d, P d → ∃ n : Int, d = .int n ∧ -(2 ^ 61) ≤ n ∧ n ≤ 2 ^ 61 ∧ PN n) : SrcE K (iRng1 (tCons te tNil)) δ c (fun ds => ∃ n : Int, ds = irng 0 n.toNat ∧ PN n) := fun bp He bx σ G H le E R q =>
  h bp He bx σ G H le E _ fun v d G1 H1 x1 b1 r1 p1 => by
    obtain ⟨n, rfl, l1, l2, p⟩ := hP d p1
    rw [r1.intI]
    exact ⟨n, rfl, by omega, by omega, q _ _ G1 H1 x1 b1 ⟨n, rfl, p⟩ walk_irng⟩
theorem Srcd.E {wi : TI} (h : Srcd K wi δ ds) : SrcE K wi δ 0 (· = ds) := fun bp He bx σ G H le E R q =>
  h bp He bx σ G H le E R fun J G' H' x w => q J ds G' H' x.none_to (x.boxStep 0) rfl w
/-- [te for g in wi], the source and each turn draw -/
theorem eveo_lcE {wi : TI} {vs js : List Nat} {N : Nat} {PT : List Da → Nat → Da → Prop} (hs : SrcE K wi δ c0 PL) (hj : ∀ j ∈ js, j ∈ vs) (hn : ∀ ds, PL ds → ds.length ≤ N) (hN : N ≤ 50000)
    (h : ∀ ds, PL ds → ∀ (i : Nat) d, ds[i]? = some d → ∃ δ2, Tgd K g js d (wipeE (bmp (c0 + i * c) δ) vs) δ2 ∧ Eve K te δ2 c (PT ds i)) :
    EveO K (tLc wi g tYes te vs) δ (c0 + N * c) (fun rs => ∃ ds, PL ds ∧ rs.length = ds.length ∧ ∀ i r, rs[i]? = some r → PT ds i r) := by
  intro bp He bx σ G H le E Q q
  refine hs bp He bx σ G H le E _ fun J ds G1 H1 x1 b1 pl w D hD => ?_
  have hn := hn ds pl
  have E1 := E.step x1 b1
  have nb : bx ≠ some D := E1.notBox hD
  refine lc_it w (Pv := fun i H' => ∃ G' acc rs, Ext bx G1 H1 G' H' ∧ BoxStep bx H1 H' (i * c) ∧ G' D = none ∧ H' D = some (.lst acc) ∧ Reps K G' acc rs ∧ rs.length = i ∧ ∀ j r, rs[j]? = some r → PT ds j r)
    ⟨G1, [], [], Ext.own x1.le hD, (Ext.own (G := G1) x1.le hD).boxStep _, x1.le.free hD, upd_same, .nil, rfl, fun j r e => by simp at e⟩ (fun i H' _ ⟨G', acc, rs, x, _⟩ => x.gg.trans x.le) ?_ ?_
  · rintro i x H2 H3 hi ⟨G', acc, rs, x2, b2, n2, n3, r2, hl, hP⟩ y
    obtain ⟨G3, d, e, x3, r3⟩ := y G' x2.gg x2.le
    have hDn : H2 D ≠ none := by rw [n3]; exact fun z => nomatch z
    have n4 : G3 D = none := (x3.gs D hDn).trans n2
    have n5 : H3 D = some (.lst acc) := x3.hh D _ (fun z => nomatch z) n3
    obtain ⟨δ2, hg, he⟩ := h ds pl i d e
    have E3 := (E1.step x2 b2).lift x3
    rw [bmp_bmp] at E3
    refine hg bp He bx (wipe σ vs) G3 H3 x x3.le (E3.wipe vs) r3 _ fun σ' E' l' k' => ⟨wipe_eq hj l' k', ?_⟩
    unfold tYes
    dsimp only
    rw [if_pos rfl]
    have m5 : H3 D ≠ none := by rw [n5]; exact fun z => nomatch z
    refine he bp He bx σ' G3 H3 x3.le E' _ fun v r G5 H5 x5 b5 r5 p5 => ?_
    have x15 : Ext bx G1 H1 G5 H5 := (x2.trans x3.none_to).trans x5
    have n6 : G5 D = none := (x5.gs D m5).trans n4
    have b15 : BoxStep bx H1 H5 ((i + 1) * c) := ((b2.trans (x3.boxStep 0)).trans b5).mono (by rw [Nat.succ_mul]; exact Nat.le_refl _)
    refine ⟨acc, x5.hh D _ nb n5, len_lt (by rw [r2.len]; omega), G5, acc ++ [v], rs ++ [r], x15.mut hD n6, b15.upd nb, n6, upd_same, ?_, by rw [List.length_append, hl]; rfl, ?_⟩
    · exact (r2.mono ((x3.none_to (bx := bx)).trans x5).gg).app (.cons r5 .nil)
    · intro j r' e'
      by_cases hjj : j < rs.length
      · rw [List.getElem?_append_left hjj] at e'
        exact hP j r' e'
      · rw [List.getElem?_append_right (by omega)] at e'
        have : j - rs.length = 0 := by
          have := (List.getElem?_eq_some_iff.mp e').1
          simp at this; omega
        rw [this] at e'
        cases e'
        have : j = i := by omega
        rw [this]; exact p5
  · rintro H' ⟨G', acc, rs, x2, b2, n2, n3, r2, hl, hP⟩
    have hD0 : H D = none := by
      cases e : H D with
      | none => rfl
      | some o => exact absurd hD (x1.hn D (by rw [e]; exact fun z => nomatch z))
    exact q D acc rs G' H' nb (x1.trans x2) ((b1.trans b2).mono (Nat.add_le_add_left (Nat.mul_le_mul_right c hn) c0)) hD0 n2 n3 r2 ⟨ds, pl, hl, hP⟩
/-- for, the source draws -/
theorem std_forE {wi : TI} {js : List Nat} (hs : SrcE K wi δ c PL) (I : List Da → Nat → List En → Prop) (h0 : ∀ ds, PL ds → I ds 0 (bmp c δ))
    (hb : ∀ ds, PL ds → ∀ (i : Nat) d δ1, ds[i]? = some d → I ds i δ1 → ∃ δ2, Tgd K g js d δ1 δ2 ∧ Std K ts δ2 { D with nx := I ds (i + 1), ct := I ds (i + 1), bk := D.nx })
    (hd : ∀ ds, PL ds → ∀ δ1, I ds ds.length δ1 → D.nx δ1) : Std K (tFor wi g ts) δ D := fun bp tp Ge He bx G H σ E x er kn kr kb kc =>
  hs bp He bx σ G H x.le er _ fun J ds G1 H1 x1 b1 pl w => by
    refine for_it w (Pv := fun i σ' H' => ∃ bx' G' δ', Ext bp Ge He G' H' ∧ Same G1 G' ∧ ER K bp He bx' G' H' σ' δ' ∧ I ds i δ') ⟨bx, G1, _, x.join er.bxo x1, Same.refl G1, er.step x1 b1, h0 ds pl⟩
      (fun i σ' H' _ ⟨_, G', _, x', s, _⟩ => s.trans x'.le) ?_ ?_
    · rintro i v σ' H2 H3 hi ⟨bx', G2, δ', x2, s2, er2, hI⟩ y
      obtain ⟨G3, d, e, x3, r3⟩ := y G2 s2 x2.le
      obtain ⟨δ2, hg, hst⟩ := hb ds pl i d δ' e hI
      have x23 := x2.trans (x3.none_to (bx := bp))
      refine hg bp He bx' σ' G3 H3 v x3.le (er2.lift x3) r3 _ fun σ2 er4 _ _ => ?_
      have s03 : Same G G3 := x1.gg.trans (s2.trans x3.gg)
      have kI : KN K bp Ge He G3 (I ds (i + 1)) (fun σ' H' => ∃ bx' G' δ', Ext bp Ge He G' H' ∧ Same G1 G' ∧ ER K bp He bx' G' H' σ' δ' ∧ I ds (i + 1) δ') := fun bx5 G5 H5 σ5 δ5 x5 s5 er5 p5 =>
        ⟨bx5, G5, δ5, x5, (s2.trans x3.gg).trans s5, er5, p5⟩
      exact hst bp tp Ge He bx' G3 H3 σ2 { E with nx := _, ct := _, bk := E.nx } x23 er4 kI (kr.lift s03) (kn.lift s03) kI
    · rintro σ' H' ⟨bx', G2, δ', x2, s2, er2, hI⟩
      exact kn bx' G2 H' σ' δ' x2 (x1.gg.trans s2) er2 (hd ds pl δ' hI)
theorem std_asgTE {js : List Nat} (h : Eve K te δ c P) (hg : ∀ d, P d → ∃ δ1, Tgd K g js d (bmp c δ) δ1 ∧ D.nx δ1) : Std K (tAsg te g) δ D := fun bp tp Ge He bx G H σ E x er kn kr kb kc =>
  h bp He bx σ G H x.le er _ fun v d G1 H1 x1 b1 r p => by
    obtain ⟨δ1, ht, k⟩ := hg d p
    exact ht bp He bx σ G1 H1 v x1.le (er.step x1 b1) r _ fun σ' er' _ _ => kn bx G1 H1 _ _ (x.join er.bxo x1) x1.gg er' k
/-- texts joined, drawn -/
theorem eve_join {a : Str} {te : TE} (ho : Evd K to δ (.str a)) (ha : Eve K te δ c P) (hP : ∀ d, P d → ∃ ys : List Str, d = .lst (ys.map .str) ∧ (ys.map (·.length)).sum + ys.length * a.length ≤ 16777216 ∧ P2 (.str (Str.join a ys))) :
    Eve K (tBM K "str" (rJoin K) to (tCons te tNil)) δ c P2 := fun bp He bx σ G H le E Q q =>
  ho bp He bx σ G H le E _ fun v G1 H1 x1 r1 => ⟨tyS x1.le r1, ha bp He bx σ G1 H1 x1.le (E.lift x1) _ fun w d G2 H2 x2 b2 r2 p2 => by
    obtain ⟨ys, rfl, hl, p⟩ := hP d p2
    exact opm_join hl v [w] G2 H2 x2.le (r1.mono x2.gg) (.cons r2 .nil) Q fun u G3 H3 x3 r3 => q u _ G3 H3 ((x1.none_to.trans x2).trans x3.none_to) ((((x1.boxStep 0).trans b2).trans (x3.boxStep 0)).mono (by omega)) r3 p⟩

/-! ### boxes -/
/-- a def that hands back a new box -/
def BnSp : Sp := fun vs H Q _ => ∃ G c, vs = [.int c] ∧ Same G H ∧ ∀ l G' H' c0 c1, Ext none G H G' H' → H l = none → G' l = none → H' l = some (.lst [.int c0, .int c1, .int 0]) → BoxV c0 c1 0 0 → Q (.ref l) H'
def noBox1 : En → En
  | .box _ => .any
  | e => e
theorem noBox_own {i : Nat} (h : (δ.map noBox1)[i]? = some (.own ds)) : δ[i]? = some (.own ds) := by
  rw [List.getElem?_map] at h
  cases e : δ[i]? with
  | none => rw [e] at h; cases h
  | some en => rw [e] at h; cases en <;> first | (cases h; rfl) | cases h
theorem std_asgBox {i : Nat} {E0 : XK} {cc : Int} (top : D.top = true) (h : Evd K te δ (.int cc)) (k : D.nx ((δ.map noBox1).set i (.box 0))) : Std K (tAsg (tCall BnSp [] E0 (tCons te tNil)) (gName i)) δ D := fun bp tp Ge He bx G H σ E x er kn kr kb kc =>
  h bp He bx σ G H x.le er _ fun v G1 H1 x1 r1 => by
    have ebp : bp = none := tp top
    subst ebp
    have er1 := er.lift x1
    refine ⟨G1, cc, by rw [r1.intI]; rfl, x1.le, fun l G2 H2 e0 e1 x2 hl gl hb2 bv => ?_⟩
    have er2 := er1.lift x2
    have hle : He l = none := x.freeE (x1.free hl)
    have hlt : ∀ j, σ[j]? = some (some (V.ref l)) → ∀ es : List Da, δ[j]? ≠ some (En.own es) := fun j e es z => by
      obtain ⟨l', vs, e2, _, _, c, _⟩ := er1.ownAt z
      rw [e] at e2; cases e2
      rw [hl] at c; cases c
    show E.nx (σ.set i (some (.ref l))) _
    refine kn (some l) G2 _ _ _ (x.trans (x1.trans x2)) (x1.gg.trans x2.gg) ?_ k
    refine ⟨by rw [List.length_set, List.length_set, List.length_map]; exact er.len, fun j en hj => ?_, fun j k' ds es l' ne h1 h2 h3 => ?_, fun b e => ?_, fun b e => ?_, (fun b e => nomatch e)⟩
    · by_cases hij : i = j
      · subst hij
        have hi : i < (δ.map noBox1).length := by
          have := (List.getElem?_eq_some_iff.mp hj).1
          rwa [List.length_set] at this
        rw [List.getElem?_set_self hi] at hj
        cases hj
        rw [List.getElem?_set_self (by rw [er.len]; rwa [List.length_map] at hi)]
        exact ⟨l, e0, e1, 0, rfl, rfl, gl, hb2, bv⟩
      · rw [List.getElem?_set_ne hij] at hj ⊢
        rw [List.getElem?_map] at hj
        cases e : δ[j]? with
        | none => rw [e] at hj; cases hj
        | some en' =>
          rw [e] at hj
          have z := er2.at_ j en' e
          cases en' with
          | any => cases hj; trivial
          | rep d => cases hj; exact z
          | own ds =>
            cases hj
            obtain ⟨l', vs, e', a', b', c', r', n'⟩ := z
            exact ⟨l', vs, e', a', b', c', r', fun y => by
              cases y
              exact hlt j (join_some e') ds e⟩
          | box n => cases hj; trivial
    · have n1 : i ≠ j := fun z => by
        subst z
        rw [List.getElem?_set] at h1
        split at h1 <;> simp_all
      have n2 : i ≠ k' := fun z => by
        subst z
        rw [List.getElem?_set] at h2
        split at h2 <;> simp_all
      rw [List.getElem?_set_ne n1] at h1 h3
      rw [List.getElem?_set_ne n2] at h2 ⊢
      exact er2.sep j k' ds es l' ne (noBox_own h1) (noBox_own h2) h3
    · cases e; exact .inr hle
    · cases e; exact ⟨by rw [hb2]; exact (fun z => nomatch z), gl⟩

/-! ### packs -/
/-- Pack.__init__: vs the new instance and the cards; the rows are the dict dd -/
def PkSp (K : PySem.W.Frag) (ok : List (Str × Str) → Prop) : Sp := fun vs H Q _ => ∃ G x dx a cs, vs = [.ref x, a] ∧ Same G H ∧ G x = none ∧ H x = some (.ins (PC K) dx []) ∧ Rep K G a (.lst (cardsD cs)) ∧ ok cs ∧ x ≠ dx ∧ G dx = none ∧ H dx = some (.own x) ∧
  ∀ G' H' dd o, Ext none G H G' (upd H' x (.ins (PC K) dx [])) → G' x = none → G' dx = none → H' x = some (.ins (PC K) dx [(("pack_rows" : Str), .ref dd)]) → H' dx = some (.own x) → dd ≠ x → G' dd = some (.frz o (.dK (rowsOf cs))) → Q .non H'
theorem evd_make {ok : List (Str × Str) → Prop} {E0 : XK} {cs : List (Str × Str)} (h : Evd K te δ (.lst (cardsD cs))) (hk : ok cs) : Evd K (tMake (PC K) (PkSp K ok) [] E0 (tCons te tNil)) δ (.pck cs) := fun bp He bx σ G H le E Q q =>
  h bp He bx σ G H le E _ fun v G1 H1 x1 r1 x dx hx hdx ne => by
    have le2 : Same G1 (upd (upd H1 dx (.own x)) x (.ins (PC K) dx [])) := fun a u e => by
      rw [upd_ne (ne_of_none (x1.le a u e) hx), upd_ne (ne_of_none (x1.le a u e) hdx)]; exact x1.le a u e
    have gx : G1 x = none := x1.le.free hx
    have gdx : G1 dx = none := x1.le.free hdx
    refine ⟨G1, x, dx, v, cs, rfl, le2, gx, upd_same, r1, hk, fun z => ne z.symm, gdx, by rw [upd_ne ne, upd_same], fun G' H' dd o x2 g1 g1d g2 g3 n4 g4 => ⟨rfl, ?_⟩⟩
    -- the instance becomes known
    let G2 : Hp := upd (upd G' dx (.own x)) x (.ins (PC K) dx [(("pack_rows" : Str), .ref dd)])
    have s2 : Same G' G2 := fun a u e => by
      show upd (upd G' dx _) x _ a = _
      rw [upd_ne (ne_of_none e g1), upd_ne (ne_of_none e g1d)]; exact e
    have g2d : G2 dx = some (.own x) := by
      show upd (upd G' dx _) x _ dx = _
      rw [upd_ne ne]; exact upd_same
    refine q (.ref x) G2 H' (x1.trans ⟨x2.gg.trans s2, fun a u _ e => ?_, fun a e => ?_, fun a e => ?_, fun a u e => ?_⟩) (.pck upd_same g2d (s2 _ _ g4))
    · have nx : a ≠ x := fun z => by rw [z, hx] at e; cases e
      have nd : a ≠ dx := fun z => by rw [z, hdx] at e; cases e
      have z := x2.hh a u (fun y => nomatch y) (by rw [upd_ne nx, upd_ne nd]; exact e)
      rwa [upd_ne nx] at z
    · have nx : a ≠ x := fun z => e (by rw [z]; exact hx)
      have nd : a ≠ dx := fun z => e (by rw [z]; exact hdx)
      have z := x2.hn a (by rw [upd_ne nx, upd_ne nd]; exact e)
      rwa [upd_ne nx] at z
    · have nx : a ≠ x := fun z => e (by rw [z]; exact hx)
      have nd : a ≠ dx := fun z => e (by rw [z]; exact hdx)
      show upd (upd G' dx _) x _ a = _
      rw [upd_ne nx, upd_ne nd]
      exact x2.gs a (by rw [upd_ne nx, upd_ne nd]; exact e)
    · by_cases nx : a = x
      · subst nx
        have e : upd (upd G' dx (.own a)) a (.ins (PC K) dx [(("pack_rows" : Str), .ref dd)]) a = some u := e
        rw [upd_same] at e; cases e; exact g2
      · have e : upd (upd G' dx (.own x)) x (.ins (PC K) dx [(("pack_rows" : Str), .ref dd)]) a = some u := e
        rw [upd_ne nx] at e
        by_cases nd : a = dx
        · subst nd
          rw [upd_same] at e; cases e; exact g3
        · rw [upd_ne nd] at e
          have z := x2.le a u e
          rwa [upd_ne nx] at z
end
end R
set_option maxHeartbeats 4123456
/-! PB: names, rows, cards. -/
namespace R
open PySem L2
section
variable {K : PySem.W.Frag} {vs : List V} {H : Hp} {Q : VK} {E : XK}
def abcS : Str := "abcdefghijklmnopqrstuvwxyz"
def nameOk (z : Str) : Prop := 1 ≤ z.length ∧ z.length ≤ 8 ∧ ∀ c ∈ z.cps.toList, c ∈ abcS.cps.toList
def rowOk (z : Str) : Prop := 1 ≤ z.length ∧ z.length ≤ 24 ∧ ∀ c ∈ z.cps.toList, c = 111 ∨ c = 118
def sp_is_integer (K : PySem.W.Frag) : Sp := PuSp K fun ds r => ∃ i lo hi, ds = [.int i, .int lo, .int hi] ∧ r = .bl (decide (lo ≤ i) && decide (i ≤ hi))
def t_is_integer (K : PySem.W.Frag) : TS := (tRet (tAndV (tCB (rIsi K) (tCons (tVar 0) (tCons (tC (.ty "int")) tNil))) (tAndV (tNotV (tCB (rIsi K) (tCons (tVar 0) (tCons (tC (.ty "bool")) tNil)))) (tChain (rI0 fun i j => .bl (decide (i ≤ j))) (rI0 fun i j => .bl (decide (i ≤ j))) (tVar 1) (tVar 0) (tVar 2)))))
def N_is_integer : List Str := ["value", "low", "high"]
theorem pure_is_integer (h : sp_is_integer K vs H Q E) : t_is_integer K { nx := fun _ H' => Q .non H', rt := Q } (L2.start N_is_integer vs) H := by
  refine pu_body h (fun ds r ⟨_, _, _, e, _⟩ => by rw [e]; exact Nat.le_refl 3) ?_
  rintro _ _ ⟨i, lo, hi, rfl, rfl⟩
  refine std_ret (d := .bl (true && (!false && (decide (lo ≤ i) && decide (i ≤ hi))))) ?_ rfl
  refine evd_and (evd_isiN true "int" (evd_var rfl)) fun _ => ?_
  refine evd_and (evd_notV (evd_isiN false "int" (evd_var rfl))) fun _ => ?_
  exact evd_chain (evd_var rfl) (evd_var rfl) (fun _ => evd_var rfl) op2_B0 (fun _ => op2_B0)
def sp_is_name (K : PySem.W.Frag) : Sp := PuSp K fun ds r => ∃ z, ds = [.str z] ∧ nameOk z ∧ r = .bl true
def t_is_name (K : PySem.W.Frag) : TS := (tSeq (tIfS (tOr (tNot (tB (tCB (rIsi K) (tCons (tVar 0) (tCons (tC (.ty "str")) tNil))))) (tNot (tTest (tChain (rI0 fun i j => .bl (decide (i ≤ j))) (rI0 fun i j => .bl (decide (i ≤ j))) (tC (.int 1)) (tCB (rLenA K) (tCons (tVar 0) tNil)) (tC (.int 8)))))) (tRet (tC (.bl false))) tNext)
  (tRet (tCB (rAll K) (tCons (tLc (iStr (tVar 0)) (gName 1) tYes (tOp rInS (tVar 1) (tC (.str "abcdefghijklmnopqrstuvwxyz"))) [1]) tNil))))
def N_is_name : List Str := ["value", "sign"]
theorem all_map_true {α : Type} {f : α → Bool} {l : List α} (h : ∀ a ∈ l, f a = true) : (l.map f).all id = true := by
  rw [List.all_map]; exact List.all_eq_true.mpr h
theorem evd_allC {δ : List En} {wi : TI} {g : TG} {te : TE} {vs js : List Nat} {ds : List Da} {f : Da → Bool} (hs : Srcd K wi δ ds) (hj : ∀ j ∈ js, j ∈ vs) (hn : ds.length ≤ 50000)
    (h : ∀ (i : Nat) d, ds[i]? = some d → ∃ δ2, Tgd K g js d (wipeE δ vs) δ2 ∧ Evd K te δ2 (.bl (f d))) : Evd K (tCB (rAll K) (tCons (tLc wi g tYes te vs) tNil)) δ (.bl (ds.all f)) := by
  have e := (evo_map (f := fun d => .bl (f d)) hs hj hn h).frz
  have e2 : ds.map (fun d => Da.bl (f d)) = (ds.map f).map Da.bl := by rw [List.map_map]; rfl
  rw [e2] at e
  have q := evd_cb (eva_cons e eva_nil) opn_all
  rw [List.all_map] at q
  exact q
theorem mem_get {α : Type} {l : List α} {i : Nat} {a : α} (h : l[i]? = some a) : a ∈ l := List.mem_of_getElem? h
theorem signs_len (z : Str) : (signs z).length = z.length := by unfold signs; rw [List.length_map, Array.length_toList]; rfl
theorem signs_at {z : Str} {i : Nat} {d : Da} (h : (signs z)[i]? = some d) : ∃ c, d = .str ⟨#[c]⟩ ∧ c ∈ z.cps.toList := by
  unfold signs at h
  rw [List.getElem?_map] at h
  cases e : z.cps.toList[i]? with
  | none => rw [e] at h; cases h
  | some c => rw [e] at h; cases h; exact ⟨c, rfl, List.mem_of_getElem? e⟩
theorem all_true {α : Type} {l : List α} : l.all (fun _ => true) = true := List.all_eq_true.mpr fun _ _ => rfl
theorem pure_is_name (h : sp_is_name K vs H Q E) : t_is_name K { nx := fun _ H' => Q .non H', rt := Q } (L2.start N_is_name vs) H := by
  refine pu_body h (fun ds r ⟨_, e, _⟩ => by rw [e]; exact Nat.le_add_left 1 1) ?_
  rintro _ _ ⟨z, rfl, ⟨h1, h2, h3⟩, rfl⟩
  refine std_seq (std_if (b := !true || !(decide ((1 : Int) ≤ z.length) && decide ((z.length : Int) ≤ 8))) ?_ (fun e => absurd e ?_) fun _ => std_next ?_)
  · exact tvd_or (tvd_not (tvd_B (evd_isiN true "str" (evd_var rfl)))) fun _ => tvd_not (tvd_test (evd_chain evd_int (evd_cb (eva_cons (evd_var rfl) eva_nil) (opn_lenS (by omega))) (fun _ => evd_int) op2_B0 fun _ => op2_B0))
  · rw [decide_eq_true (by omega), decide_eq_true (by omega)]; decide
  · refine std_ret (d := .bl ((signs z).all fun _ => true)) ?_ (by rw [all_true])
    refine evd_allC (f := fun _ => true) (src_str (evd_var rfl)) (fun j h => h) (by rw [signs_len]; omega) fun i d e => ?_
    obtain ⟨c, rfl, hc⟩ := signs_at e
    refine ⟨_, tg_name, ?_⟩
    have q := op2_inSign (K := K) (c := c) (z := abcS)
    rw [decide_eq_true (h3 c hc)] at q
    exact evd_op (evd_var rfl) evd_str q
def sp_is_row (K : PySem.W.Frag) : Sp := PuSp K fun ds r => ∃ z, ds = [.str z] ∧ rowOk z ∧ r = .bl true
def t_is_row (K : PySem.W.Frag) : TS := (tSeq (tIfS (tOr (tNot (tB (tCB (rIsi K) (tCons (tVar 0) (tCons (tC (.ty "str")) tNil))))) (tNot (tTest (tChain (rI0 fun i j => .bl (decide (i ≤ j))) (rI0 fun i j => .bl (decide (i ≤ j))) (tC (.int 1)) (tCB (rLenA K) (tCons (tVar 0) tNil)) (tC (.int 24)))))) (tRet (tC (.bl false))) tNext)
  (tRet (tCB (rAll K) (tCons (tLc (iStr (tVar 0)) (gName 1) tYes (tOp (rIn K false) (tVar 1) (tTup (tCons (tC (.str "o")) (tCons (tC (.str "v")) tNil)))) [1]) tNil))))
def N_is_row : List Str := ["value", "sign"]
theorem pure_is_row (h : sp_is_row K vs H Q E) : t_is_row K { nx := fun _ H' => Q .non H', rt := Q } (L2.start N_is_row vs) H := by
  refine pu_body h (fun ds r ⟨_, e, _⟩ => by rw [e]; exact Nat.le_add_left 1 1) ?_
  rintro _ _ ⟨z, rfl, ⟨h1, h2, h3⟩, rfl⟩
  refine std_seq (std_if (b := !true || !(decide ((1 : Int) ≤ z.length) && decide ((z.length : Int) ≤ 24))) ?_ (fun e => absurd e ?_) fun _ => std_next ?_)
  · exact tvd_or (tvd_not (tvd_B (evd_isiN true "str" (evd_var rfl)))) fun _ => tvd_not (tvd_test (evd_chain evd_int (evd_cb (eva_cons (evd_var rfl) eva_nil) (opn_lenS (by omega))) (fun _ => evd_int) op2_B0 fun _ => op2_B0))
  · rw [decide_eq_true (by omega), decide_eq_true (by omega)]; decide
  · refine std_ret (d := .bl ((signs z).all fun _ => true)) ?_ (by rw [all_true])
    refine evd_allC (f := fun _ => true) (src_str (evd_var rfl)) (fun j h => h) (by rw [signs_len]; omega) fun i d e => ?_
    obtain ⟨c, rfl, hc⟩ := signs_at e
    refine ⟨_, tg_name, ?_⟩
    have q := op2_inT (K := K) (neg := false) (d := .str ⟨#[c]⟩) (ds := [.str "o", .str "v"]) rfl rfl
    have q2 : inD (.str ⟨#[c]⟩) [.str "o", .str "v"] = true := by
      have := inD_str ⟨#[c]⟩ ["o", "v"]
      refine this.trans (decide_eq_true ?_)
      rcases h3 c hc with rfl | rfl
      · exact List.mem_cons_self
      · exact List.mem_cons_of_mem _ List.mem_cons_self
    rw [q2] at q
    exact evd_op (evd_var rfl) (evd_tup (eva_cons evd_str (eva_cons evd_str eva_nil)) (by decide)) q
def sp_is_list (K : PySem.W.Frag) : Sp := PuSp K fun ds r => ∃ b xs m, ds = [seqD b xs, .int m] ∧ r = .bl (decide ((xs.length : Int) ≤ m))
def t_is_list (K : PySem.W.Frag) : TS := (tRet (tAndV (tCB (rIsiT K) (tCons (tVar 0) (tCons (tTup (tCons (tC (.ty "list")) (tCons (tC (.ty "tuple")) tNil))) tNil))) (tOp (rI0 fun i j => .bl (decide (i ≤ j))) (tCB (rLenA K) (tCons (tVar 0) tNil)) (tVar 1))))
def N_is_list : List Str := ["value", "most"]
theorem pure_is_list (h : sp_is_list K vs H Q E) : t_is_list K { nx := fun _ H' => Q .non H', rt := Q } (L2.start N_is_list vs) H := by
  refine pu_body h (fun ds r ⟨_, _, _, e, _⟩ => by rw [e]; exact Nat.le_refl 2) ?_
  rintro _ _ ⟨b, xs, m, rfl, rfl⟩
  refine std_ret (d := .bl (true && decide ((xs.length : Int) ≤ m))) ?_ rfl
  exact evd_and (evd_isiLT (evd_var rfl)) fun _ => evd_op (evd_cb (eva_cons (evd_var rfl) eva_nil) opn_lenSeq) (evd_var rfl) op2_B0
def sp_is_open (K : PySem.W.Frag) : Sp := PuSp K fun ds r => ∃ z i c, ds = [.str z, .int i] ∧ z.length ≤ 24 ∧ atI z.cps.toList i = some c ∧ r = .bl (decide (c = 118))
def t_is_open (K : PySem.W.Frag) : TS := (tRet (tOp rEq (tOp rIxS (tVar 0) (tVar 1)) (tC (.str "v"))))
def N_is_open : List Str := ["row", "hole"]
theorem sign_eq (c d : Nat) : decide ((⟨#[c]⟩ : Str) = ⟨#[d]⟩) = decide (c = d) := decide_eq_decide.mpr ⟨fun h => by injection h with h; injection h with h; injection h, fun h => by rw [h]⟩
theorem pure_is_open (h : sp_is_open K vs H Q E) : t_is_open K { nx := fun _ H' => Q .non H', rt := Q } (L2.start N_is_open vs) H := by
  refine pu_body h (fun ds r ⟨_, _, _, e, _⟩ => by rw [e]; exact Nat.le_refl 2) ?_
  rintro _ _ ⟨z, i, c, rfl, h1, h2, rfl⟩
  refine std_ret (d := .bl (decide ((⟨#[c]⟩ : Str) = ⟨#[118]⟩))) ?_ (by rw [sign_eq])
  exact evd_op (evd_op (evd_var rfl) (evd_var rfl) (op2_ixS (by omega) h2)) (evd_str (x := ⟨#[118]⟩)) op2_eqS
def sp_is_card (K : PySem.W.Frag) : Sp := PuSp K fun ds r => ∃ n w, ds = [cardD (n, w)] ∧ nameOk n ∧ rowOk w ∧ r = .bl true
def t_is_card (K : PySem.W.Frag) : TS := (tRet (tAndV (tCB (rIsi K) (tCons (tVar 0) (tCons (tC (.ty "tuple")) tNil))) (tAndV (tOp rEq (tCB (rLenA K) (tCons (tVar 0) tNil)) (tC (.int 2))) (tAndV (tCall (sp_is_name K) [] E0 (tCons (tOp (rIxT K) (tVar 0) (tC (.int 0))) tNil)) (tCall (sp_is_row K) [] E0 (tCons (tOp (rIxT K) (tVar 0) (tC (.int 1))) tNil))))))
def N_is_card : List Str := ["value"]
theorem pure_is_card (h : sp_is_card K vs H Q E) : t_is_card K { nx := fun _ H' => Q .non H', rt := Q } (L2.start N_is_card vs) H := by
  refine pu_body h (fun ds r ⟨_, _, e, _⟩ => by rw [e]; exact Nat.le_refl 1) ?_
  rintro _ _ ⟨n, w, rfl, h1, h2, rfl⟩
  refine std_ret (d := .bl (true && (true && (true && true)))) ?_ rfl
  refine evd_and (evd_isiN true "tuple" (evd_var rfl)) fun _ => evd_and ?_ fun _ => evd_and ?_ fun _ => ?_
  · exact evd_op (d := .bl true) (evd_cb (d := .int 2) (eva_cons (evd_var rfl) eva_nil) opn_lenT) evd_int op2_eqI
  · exact evd_call (eva_cons (evd_op (evd_var rfl) evd_int (op2_ixT rfl)) eva_nil) ⟨n, rfl, h1, rfl⟩
  · exact evd_call (eva_cons (evd_op (evd_var rfl) evd_int (op2_ixT rfl)) eva_nil) ⟨w, rfl, h2, rfl⟩
end
end R
set_option maxHeartbeats 4123456
/-! PC: packs. -/
namespace R
open PySem L2
section
variable {K : PySem.W.Frag} {vs : List V} {H : Hp} {Q : VK} {E : XK}
structure PackOk (cs : List (Str × Str)) : Prop where
  len : cs.length ≤ 60
  ok : ∀ c ∈ cs, nameOk c.1 ∧ rowOk c.2
  nd : (cs.map (·.1)).Nodup
  wd : ∃ w, ∀ c ∈ cs, c.2.length = w
/-- what the head tells of the class -/
structure PkC (K : PySem.W.Frag) : Prop where
  cl : Cls K (PC K)
  na : NoAttr K (PC K) "pack_rows"
  own : Own K (PC K)
theorem ER.ofReps {G H He : Hp} {σ : L2.St} {δ : List En} (hl : σ.length = δ.length) (h : ∀ (i : Nat) (en : En), δ[i]? = some en → en = En.any ∨ ∃ d v, en = En.rep d ∧ σ[i]? = some (some v) ∧ Rep K G v d) : ER K none He none G H σ δ := by
  refine ⟨hl, fun i en e => ?_, fun i j ds es l ne h1 h2 h3 => ?_, (fun b e => nomatch e), (fun b e => nomatch e), (fun b e => nomatch e)⟩
  · rcases h i en e with rfl | ⟨d, v, rfl, e2, r⟩
    · trivial
    · exact ⟨v, by rw [e2]; rfl, r⟩
  · rcases h i _ h1 with z | ⟨d, v, z, _, _⟩ <;> cases z
theorem er5 {G H He : Hp} {σ : L2.St} {d1 : Da} {v1 : V} (hl : σ.length = 5) (h1 : σ[1]? = some (some v1)) (r1 : Rep K G v1 d1) : ER K none He none G H σ [.any, .rep d1, .any, .any, .any] :=
  ER.ofReps hl fun i en e => by
    match i, e with
    | 0, e => cases e; exact .inl rfl
    | 1, e => cases e; exact .inr ⟨_, _, rfl, h1, r1⟩
    | 2, e => cases e; exact .inl rfl
    | 3, e => cases e; exact .inl rfl
    | 4, e => cases e; exact .inl rfl
    | i + 5, e => simp at e
theorem Ext.back {G H G' H' : Hp} {x : Addr} {o : HO} (e : Ext (some x) G H G' H') (hx : H x = some o) (gx : G' x = none) : Ext none G H G' (upd H' x o) := by
  refine ⟨e.gg, fun a u _ z => ?_, fun a z => ?_, e.gs, fun a u z => ?_⟩
  · by_cases h : a = x
    · rw [h, upd_same]; rw [h, hx] at z; exact z
    · rw [upd_ne h]; exact e.hh a u (fun y => h (by cases y; rfl)) z
  · by_cases h : a = x
    · rw [h, upd_same]; exact fun y => nomatch y
    · rw [upd_ne h]; exact e.hn a z
  · rw [upd_ne (ne_of_none z gx)]; exact e.le a u z
theorem rowsOf_take {cs : List (Str × Str)} {i : Nat} {c : Str × Str} (e : cs[i]? = some c) : rowsOf (cs.take (i + 1)) = rowsOf (cs.take i) ++ [((Sum.inr c.1 : Key), V.str c.2)] := by
  unfold rowsOf
  rw [List.take_add_one, e, List.map_append]; rfl
theorem valV_absent {kvs : List (Key × V)} {k : Key} (h : k ∉ kvs.map (·.1)) : valV kvs k = none := by
  unfold valV
  rw [List.find?_eq_none.mpr]
  · rfl
  · intro p hp z
    exact h (List.mem_map.mpr ⟨p, hp, of_decide_eq_true z⟩)
theorem putK_absent {kvs : List (Key × V)} {k : Key} {v : V} (h : k ∉ kvs.map (·.1)) : putK kvs k v = kvs ++ [(k, v)] := by
  unfold putK
  rw [if_neg]
  intro z
  rw [List.any_eq_true] at z
  obtain ⟨p, hp, z⟩ := z
  exact h (List.mem_map.mpr ⟨p, hp, of_decide_eq_true z⟩)
theorem row_absent {cs : List (Str × Str)} {i : Nat} {c : Str × Str} (nd : (cs.map (·.1)).Nodup) (e : cs[i]? = some c) : (Sum.inr c.1 : Key) ∉ (rowsOf (cs.take i)).map (·.1) := fun z => by
  unfold rowsOf at z
  rw [List.map_map] at z
  obtain ⟨p, hp, z⟩ := List.mem_map.mp z
  have z : p.1 = c.1 := Sum.inr.inj z
  obtain ⟨j, hj, ej⟩ := List.mem_take_iff_getElem.mp hp
  obtain ⟨hi, ei⟩ := List.getElem?_eq_some_iff.mp e
  have : j < i := by omega
  have h1 : (cs.map (·.1))[j]'(by rw [List.length_map]; omega) = (cs.map (·.1))[i]'(by rw [List.length_map]; omega) := by
    rw [List.getElem_map, List.getElem_map, ej, ei]; exact z
  have := (List.getElem_inj nd).mp h1
  omega
theorem cards_at {cs : List (Str × Str)} {i : Nat} {d : Da} (e : (cardsD cs)[i]? = some d) : ∃ c, cs[i]? = some c ∧ d = cardD c := by
  unfold cardsD at e
  rw [List.getElem?_map] at e
  cases q : cs[i]? with
  | none => rw [q] at e; cases e
  | some c => rw [q] at e; cases e; exact ⟨c, rfl, rfl⟩
theorem cardsD_len (cs : List (Str × Str)) : (cardsD cs).length = cs.length := by unfold cardsD; rw [List.length_map]
theorem pt_if {tt : TT} {t1 t2 : TS} {D : Ends} {σ : L2.St} {H : Hp} (h : tt σ H (fun b H1 => if b = true then t1 D σ H1 else t2 D σ H1)) : tIfS tt t1 t2 D σ H := h
theorem pt_seq {t u : TS} {D : Ends} {σ : L2.St} {H : Hp} (h : t { D with nx := u D } σ H) : tSeq t u D σ H := h
theorem pt_nx {D : Ends} {σ : L2.St} {H : Hp} (h : D.nx σ H) : tNext D σ H := h
theorem pt_nxs {u : TS} {D D0 : Ends} {σ : L2.St} {H : Hp} (h : u D0 σ H) : tNext { D with nx := u D0 } σ H := h
theorem pt_asg {te : TE} {g : TG} {D : Ends} {σ : L2.St} {H : Hp} (h : te σ H fun x H1 => g x σ H1 D.nx) : tAsg te g D σ H := h
def sp_Pack_Dinit (K : PySem.W.Frag) : Sp := PkSp K PackOk
def t_Pack_Dinit (K : PySem.W.Frag) : TS := (tSeq (tIfS (tNot (tB (tCall (sp_is_list K) [] E0 (tCons (tVar 1) (tCons (tC (.int 60)) tNil))))) tNever tNext)
  (tSeq (sFld K (tVar 0) tDNewK "pack_rows")
  (tFor (iList K (tVar 1)) (gName 2) (tSeq (tIfS (tNot (tB (tCall (sp_is_card K) [] E0 (tCons (tVar 2) tNil)))) tNever tNext)
  (tSeq (tAsg (tVar 2) (gTup K 2 (gCons (gName 3) (gCons (gName 4) gNil))))
  (tSeq (tIfS (tB (tDIn (tVar 3) (tFld K (tVar 0) "pack_rows"))) tNever tNext)
  (tSeq (tIfS (tTest (tOp rNe (tCB (rLenA K) (tCons (tVar 4) tNil)) (tCB (rLenA K) (tCons (tOp (rIxT K) (tOp (rIxL K) (tVar 1) (tC (.int 0))) (tC (.int 1))) tNil)))) tNever tNext)
  (sDPut (tFld K (tVar 0) "pack_rows") (tVar 3) (tVar 4)))))))))
def N_Pack_Dinit : List Str := ["self", "cards", "card", "name", "row"]
theorem pure_Pack_Dinit (T : PkC K) (h : sp_Pack_Dinit K vs H Q E) : tFrzE (t_Pack_Dinit K) { nx := fun _ H' => Q .non H', rt := Q } (L2.start N_Pack_Dinit vs) H := by
  obtain ⟨G, x, dx, a, cs, rfl, le, gx, hx, ra, ok, nxdx, gdx, hdx, q⟩ := h
  obtain ⟨w0, hw0⟩ := ok.wd
  have e0 : (L2.start N_Pack_Dinit [.ref x, a])[0]? = some (some (V.ref x)) := rfl
  have e1 : (L2.start N_Pack_Dinit [.ref x, a])[1]? = some (some a) := rfl
  have el : (L2.start N_Pack_Dinit [.ref x, a]).length = 5 := rfl
  generalize L2.start N_Pack_Dinit [.ref x, a] = σ at e0 e1 el
  have er := er5 (He := H) (H := H) el e1 ra
  have t1 : Tvd K (tNot (tB (tCall (sp_is_list K) [] E0 (tCons (tVar 1) (tCons (tC (.int 60)) tNil))))) [.any, .rep (.lst (cardsD cs)), .any, .any, .any] (!decide (((cardsD cs).length : Int) ≤ 60)) :=
    tvd_not (tvd_B (evd_call (eva_cons (evd_var rfl) (eva_cons evd_int eva_nil)) ⟨true, cardsD cs, 60, rfl, rfl⟩))
  rw [decide_eq_true (by rw [cardsD_len]; have := ok.len; omega)] at t1
  unfold tFrzE t_Pack_Dinit
  refine pt_seq (pt_if (t1 none H none σ G H le er _ ?_))
  intro G1 H1 x1
  refine iteF (pt_nx (pt_seq ?_))
  -- the dict
  intro p hp
  have hx1 : H1 x = some (.ins (PC K) dx []) := x1.hh x _ (fun z => nomatch z) hx
  have gx1 : G1 x = none := (x1.gs x (by rw [hx]; exact fun z => nomatch z)).trans gx
  have gp : G1 p = none := x1.le.free hp
  have npx : p ≠ x := fun z => by rw [z, hx1] at hp; cases hp
  refine ⟨.ref x, e0, x, PC K, dx, [], rfl, by rw [upd_ne npx.symm]; exact hx1, T.cl, T.na, by decide, ?_⟩
  -- the walk
  have hp0 : H p = none := x1.free hp
  have X0 : Ext (some x) G H G1 (upd (upd H1 p (.dK [])) x (.ins (PC K) dx [("pack_rows", .ref p)])) := by
    have y1 : Ext (some x) G H G1 (upd H1 p (.dK [])) := (x1.none_to).mut hp0 gp
    have y2 : Ext (some x) G1 (upd H1 p (.dK [])) G1 (upd (upd H1 p (.dK [])) x (.ins (PC K) dx [("pack_rows", .ref p)])) := Ext.boxed y1.le gx1 (by rw [upd_ne npx.symm, hx1]; exact fun z => nomatch z)
    exact y1.trans y2
  show (tFor (iList K (tVar 1)) (gName 2) _) _ σ _
  refine src_list (ds := cardsD cs) (evd_var (i := 1) (δ := [.any, .rep (.lst (cardsD cs)), .any, .any, .any]) rfl) none H none σ G1 _ X0.le (er5 el e1 (ra.mono x1.gg)) _ fun J G2 H2 x2 wk => ?_
  refine for_it wk (Pv := fun i σ' H' => ∃ G', Ext (some x) G H G' H' ∧ Same G2 G' ∧ G' p = none ∧ H' x = some (.ins (PC K) dx [("pack_rows", .ref p)]) ∧ H' p = some (.dK (rowsOf (cs.take i))) ∧
    σ'.length = 5 ∧ σ'[0]? = some (some (.ref x)) ∧ σ'[1]? = some (some a)) ?_ (fun i σ' H' _ ⟨G', x', s, _⟩ => s.trans x'.le) ?_ ?_
  · have hxx : upd (upd H1 p (.dK [])) x (.ins (PC K) dx [("pack_rows", .ref p)]) x = some (.ins (PC K) dx [("pack_rows", .ref p)]) := upd_same
    have hpp : upd (upd H1 p (.dK [])) x (.ins (PC K) dx [("pack_rows", .ref p)]) p = some (.dK []) := by rw [upd_ne npx]; exact upd_same
    exact ⟨G2, X0.trans x2.none_to, Same.refl _, (x2.gs p (by rw [hpp]; exact fun z => nomatch z)).trans gp, x2.hh x _ (fun z => nomatch z) hxx, x2.hh p _ (fun z => nomatch z) hpp, el, e0, e1⟩
  · rintro i v σ' Ha Hb hi ⟨G', xa, s, gp', hxa, hpa, l', s0, s1⟩ y
    obtain ⟨G3, d, e, x3, r3⟩ := y G' s xa.le
    obtain ⟨⟨n, w⟩, ec, rfl⟩ := cards_at e
    have hmem : (n, w) ∈ cs := List.mem_of_getElem? ec
    obtain ⟨nok, rok⟩ := ok.ok _ hmem
    have ra3 : Rep K G3 a (.lst (cardsD cs)) := ra.mono (xa.gg.trans x3.gg)
    have erb := er5 (He := H) (H := Hb) l' s1 ra3
    refine tg_name (i := 2) none H none σ' G3 Hb v x3.le erb r3 _ fun σ2 er2 l2 k2 => ?_
    have t2 : Tvd K (tNot (tB (tCall (sp_is_card K) [] E0 (tCons (tVar 2) tNil)))) [.any, .rep (.lst (cardsD cs)), .rep (cardD (n, w)), .any, .any] (!true) :=
      tvd_not (tvd_B (evd_call (eva_cons (evd_var rfl) eva_nil) ⟨n, w, rfl, nok, rok, rfl⟩))
    refine pt_seq (pt_if (t2 none H none σ2 G3 Hb x3.le er2 _ ?_))
    intro G4 H4 x4
    refine iteF (pt_nxs (pt_seq (pt_asg ?_)))
    refine (evd_var (i := 2) (d := cardD (n, w)) rfl) none H none σ2 G4 H4 x4.le (er2.lift x4) _ fun v5 G5 H5 x5 r5 => ?_
    refine tg_two (i := 3) (j := 4) none H none σ2 G5 H5 v5 x5.le ((er2.lift x4).lift x5) r5 _ fun σ3 er3 l3 k3 => ?_
    have x35 : Ext none G' Ha G5 H5 := (x3.trans x4).trans x5
    have q0 : σ3[0]? = some (some (.ref x)) := (k3 0 (by decide)).trans ((k2 0 (by decide)).trans s0)
    have q1 : σ3[1]? = some (some a) := (k3 1 (by decide)).trans ((k2 1 (by decide)).trans s1)
    obtain ⟨_, q3, r3'⟩ := er3.rep (i := 3) rfl
    obtain rfl := r3'.strI
    have hx5 : H5 x = _ := x35.hh x _ (fun z => nomatch z) hxa
    have hp5 : H5 p = _ := x35.hh p _ (fun z => nomatch z) hpa
    have ab := row_absent ok.nd ec
    -- name in self.pack_rows
    dsimp only
    refine pt_seq (pt_if ?_)
    refine ⟨_, q3, _, q0, x, PC K, dx, _, .ref p, rfl, hx5, T.cl, T.na, rfl, p, none, rfl, ?_, false, rfl, iteF (pt_nxs ?_)⟩
    · have := DGet.k (k := (Sum.inr n : Key)) hp5
      rwa [valV_absent ab] at this
    have t3 : Tvd K (tTest (tOp rNe (tCB (rLenA K) (tCons (tVar 4) tNil)) (tCB (rLenA K) (tCons (tOp (rIxT K) (tOp (rIxL K) (tVar 1) (tC (.int 0))) (tC (.int 1))) tNil)))) [.any, .rep (.lst (cardsD cs)), .rep (cardD (n, w)), .rep (.str n), .rep (.str w)] false := by
      cases ecs : cs with
      | nil => rw [ecs] at hmem; cases hmem
      | cons c0 cr =>
        have hc0 : c0 ∈ cs := by rw [ecs]; exact List.mem_cons_self
        have z := op2_neI (K := K) (i := (w.length : Int)) (j := (c0.2.length : Int))
        rw [hw0 _ hmem, hw0 _ hc0, decide_eq_true rfl] at z
        have l1 : w.length ≤ 24 := rok.2.1
        have l2 : c0.2.length ≤ 24 := (ok.ok _ hc0).2.2.1
        have g1 : Opn K (rLenA K) [.str w] (.int w0) := by
          have := opn_lenS (K := K) (z := w) (by omega)
          rwa [show w.length = w0 from hw0 _ hmem] at this
        have g2 : Opn K (rLenA K) [.str c0.2] (.int w0) := by
          have := opn_lenS (K := K) (z := c0.2) (by omega)
          rwa [show c0.2.length = w0 from hw0 _ hc0] at this
        exact tvd_test (evd_op (evd_cb (eva_cons (evd_var rfl) eva_nil) g1) (evd_cb (eva_cons (evd_op (evd_op (evd_var rfl) evd_int (op2_ixL (d := cardD c0) (atI_nat (j := 0) rfl))) evd_int (op2_ixT (d := .str c0.2) rfl)) eva_nil) g2) z)
    refine pt_seq (pt_if (t3 none H none σ3 G5 H5 x5.le er3 _ ?_))
    intro G6 H6 x6
    refine iteF (pt_nxs ?_)
    have hx6 : H6 x = _ := x6.hh x _ (fun z => nomatch z) hx5
    have hp6 : H6 p = _ := x6.hh p _ (fun z => nomatch z) hp5
    have x36 := x35.trans x6
    obtain ⟨_, q4, r4⟩ := er3.rep (i := 4) rfl
    obtain rfl := r4.strI
    have gp6 : G6 p = none := (x36.gs p (by rw [hpa]; exact fun z => nomatch z)).trans gp'
    refine ⟨_, q4, _, q0, x, PC K, dx, _, .ref p, rfl, hx6, T.cl, T.na, rfl, _, q3, p, _, rfl, DPut.k (k := (Sum.inr n : Key)) hp6 ?_, ?_⟩
    · unfold rowsOf
      rw [List.length_map, List.length_take]
      exact Nat.lt_of_le_of_lt (Nat.le_trans (Nat.min_le_right _ _) ok.len) (by rw [sizeLine_eq]; decide)
    · rw [putK_absent ab, ← rowsOf_take (c := (n, w)) ec]
      refine ⟨G6, (xa.trans x36.none_to).mut hp0 gp6, s.trans x36.gg, gp6, by rw [upd_ne npx.symm]; exact hx6, upd_same, l3.trans (l2.trans l'), q0, q1⟩
  · rintro σ' H' ⟨G', xa, s, gp', hxa, hpa, l', s0, s1⟩
    rw [cardsD_len, List.take_length] at hpa
    refine ⟨p, rowsOf cs, hpa, fun o => ?_⟩
    have gx' : G' x = none := (xa.gs x (by rw [hx]; exact fun z => nomatch z)).trans gx
    have y1 : Ext (some x) G H (upd G' p (.frz o (.dK (rowsOf cs)))) (upd H' p (.frz o (.dK (rowsOf cs)))) := (xa.mut hp0 gp').known hp0 gp' upd_same
    have ndp : dx ≠ p := fun z => by rw [← z, hdx] at hp0; cases hp0
    refine q _ _ p o (y1.back hx (by rw [upd_ne npx.symm]; exact gx')) (by rw [upd_ne npx.symm]; exact gx') ?_ (by rw [upd_ne npx.symm]; exact hxa) ?_ npx upd_same
    · rw [upd_ne ndp]
      exact (xa.gs dx (by rw [hdx]; exact fun z => nomatch z)).trans gdx
    · rw [upd_ne ndp]
      exact xa.hh dx _ (fun z => nxdx (by cases z; rfl)) hdx
theorem PackOk.filter {cs : List (Str × Str)} (h : PackOk cs) (f : Str × Str → Bool) : PackOk (cs.filter f) := by
  obtain ⟨w, hw⟩ := h.wd
  exact ⟨Nat.le_trans (List.length_filter_le f cs) h.len, fun c hc => h.ok c ((List.mem_filter.mp hc).1), h.nd.sublist ((List.filter_sublist).map _), w, fun c hc => hw c ((List.mem_filter.mp hc).1)⟩
def sp_Pack_Dlen (K : PySem.W.Frag) : Sp := PuSp K fun ds r => ∃ cs, ds = [.pck cs] ∧ r = .int (cs.length : Int)
def t_Pack_Dlen (K : PySem.W.Frag) : TS := (tRet (tCB rLenF (tCons (tFld K (tVar 0) "pack_rows") tNil)))
def N_Pack_Dlen : List Str := ["self"]
theorem rowsD_len (cs : List (Str × Str)) : (rowsD cs).length = cs.length := by unfold rowsD; rw [List.length_map]
theorem pure_Pack_Dlen (T : PkC K) (h : sp_Pack_Dlen K vs H Q E) : t_Pack_Dlen K { nx := fun _ H' => Q .non H', rt := Q } (L2.start N_Pack_Dlen vs) H := by
  refine pu_body h (fun ds r ⟨_, e, _⟩ => by rw [e]; exact Nat.le_refl 1) ?_
  rintro _ _ ⟨cs, rfl, rfl⟩
  exact std_ret (d := .int ((rowsD cs).length : Int)) (evd_lenF (evd_rows T.cl T.na (evd_var rfl))) (by rw [rowsD_len])
def sp_Pack_cards (K : PySem.W.Frag) : Sp := PuSp K fun ds r => ∃ cs, ds = [.pck cs] ∧ r = .lst (cardsD cs)
def t_Pack_cards (K : PySem.W.Frag) : TS := (tRet (tItemsF (tFld K (tVar 0) "pack_rows")))
def N_Pack_cards : List Str := ["self"]
theorem items_rows (cs : List (Str × Str)) : ((rowsD cs).map fun k => Da.tup [keyD k.1, k.2]) = cardsD cs := by
  unfold rowsD cardsD
  rw [List.map_map]; rfl
theorem pure_Pack_cards (T : PkC K) (h : sp_Pack_cards K vs H Q E) : t_Pack_cards K { nx := fun _ H' => Q .non H', rt := Q } (L2.start N_Pack_cards vs) H := by
  refine pu_body h (fun ds r ⟨_, e, _⟩ => by rw [e]; exact Nat.le_refl 1) ?_
  rintro _ _ ⟨cs, rfl, rfl⟩
  exact std_ret (evo_items (evd_rows T.cl T.na (evd_var rfl))).frz (by rw [items_rows])
def widthOf (cs : List (Str × Str)) : Int := maxI 0 (cs.map fun c => (c.2.length : Int))
def sp_Pack_width (K : PySem.W.Frag) : Sp := PuSp K fun ds r => ∃ cs, ds = [.pck cs] ∧ PackOk cs ∧ r = .int (widthOf cs)
def t_Pack_width (K : PySem.W.Frag) : TS := (tRet (tCKw (rMaxD K) (tCons (tLc (iVals (tFld K (tVar 0) "pack_rows")) (gName 1) tYes (tCB (rLenA K) (tCons (tVar 1) tNil)) [1]) tNil) (tCons (tC (.int 0)) tNil)))
def N_Pack_width : List Str := ["self", "row"]
theorem pure_Pack_width (T : PkC K) (h : sp_Pack_width K vs H Q E) : t_Pack_width K { nx := fun _ H' => Q .non H', rt := Q } (L2.start N_Pack_width vs) H := by
  refine pu_body h (fun ds r ⟨_, e, _⟩ => by rw [e]; exact Nat.le_add_left 1 1) ?_
  rintro _ _ ⟨cs, rfl, ok, rfl⟩
  refine std_ret (evd_maxD (ns := cs.map fun c => (c.2.length : Int)) ?_ evd_int) rfl
  have e := evo_map (K := K) (g := gName 1) (te := tCB (rLenA K) (tCons (tVar 1) tNil)) (vs := [1]) (f := fun d => match d with | .str z => .int z.length | _ => .non)
    (src_vals (evd_rows T.cl T.na (evd_var (K := K) (δ := envOf N_Pack_width ([Da.pck cs].map En.rep)) (i := 0) rfl))) (fun j h => h) (by rw [List.length_map, rowsD_len]; have := ok.len; omega) fun i d e => by
      unfold rowsD at e
      rw [List.map_map, List.getElem?_map] at e
      cases q : cs[i]? with
      | none => rw [q] at e; cases e
      | some c =>
        rw [q] at e
        cases e
        refine ⟨_, tg_name, ?_⟩
        have l : c.2.length ≤ 24 := (ok.ok _ (List.mem_of_getElem? q)).2.2.1
        exact evd_cb (eva_cons (evd_var rfl) eva_nil) (opn_lenS (by show c.2.length ≤ _; omega))
  refine e.frz.is ?_
  unfold rowsD
  rw [List.map_map, List.map_map, List.map_map]; rfl
theorem widthOf_eq {cs : List (Str × Str)} {w : Nat} (h : ∀ c ∈ cs, c.2.length = w) (ne : cs ≠ []) : widthOf cs = (w : Int) := by
  unfold widthOf
  cases cs with
  | nil => exact absurd rfl ne
  | cons c cs =>
    have aux : ∀ l : List (Str × Str), (∀ c ∈ l, c.2.length = w) → (l.map fun c => (c.2.length : Int)).foldl max (w : Int) = (w : Int) := by
      intro l
      induction l with
      | nil => intro _; rfl
      | cons a l ih =>
        intro hl
        rw [List.map_cons, List.foldl_cons, hl a List.mem_cons_self, Int.max_self]
        exact ih fun c hc => hl c (List.mem_cons_of_mem _ hc)
    show (cs.map fun c => (c.2.length : Int)).foldl max (c.2.length : Int) = _
    rw [h c List.mem_cons_self]
    exact aux cs fun c hc => h c (List.mem_cons_of_mem _ hc)
def sp_need_pack (K : PySem.W.Frag) : Sp := PuSp K fun ds r => ∃ cs, ds = [.pck cs] ∧ r = .non
def t_need_pack (K : PySem.W.Frag) : TS := (tIfS (tNot (tB (tCB (rIsi K) (tCons (tVar 0) (tCons (tC (.ref (He.ga K "Pack"))) tNil))))) tNever tNext)
def N_need_pack : List Str := ["pack"]
theorem pure_need_pack (T : PkC K) (h : sp_need_pack K vs H Q E) : t_need_pack K { nx := fun _ H' => Q .non H', rt := Q } (L2.start N_need_pack vs) H := by
  refine pu_body h (fun ds r ⟨_, e, _⟩ => by rw [e]; exact Nat.le_refl 1) ?_
  rintro _ _ ⟨cs, rfl, rfl⟩
  exact std_if (b := !true) (tvd_not (tvd_B (evd_isiPack T.own (evd_var rfl)))) (fun e => nomatch e) fun _ => std_next rfl
def sp_need_hole (K : PySem.W.Frag) : Sp := PuSp K fun ds r => ∃ cs i, ds = [.pck cs, .int i] ∧ PackOk cs ∧ 0 ≤ i ∧ i < widthOf cs ∧ r = .non
def t_need_hole (K : PySem.W.Frag) : TS := (tIfS (tNot (tB (tCall (sp_is_integer K) [] E0 (tCons (tVar 1) (tCons (tC (.int 0)) (tCons (tOp (rI0 fun i j => .int (i - j)) (tMeth (He.ga K "Pack") "width" (sp_Pack_width K) [] E0 (tVar 0) tNil) (tC (.int 1))) tNil)))))) tNever tNext)
def N_need_hole : List Str := ["pack", "hole"]
theorem pure_need_hole (h : sp_need_hole K vs H Q E) : t_need_hole K { nx := fun _ H' => Q .non H', rt := Q } (L2.start N_need_hole vs) H := by
  refine pu_body h (fun ds r ⟨_, _, e, _⟩ => by rw [e]; exact Nat.le_refl 2) ?_
  rintro _ _ ⟨cs, i, rfl, ok, h0, h1, rfl⟩
  refine std_if (b := !(decide (0 ≤ i) && decide (i ≤ widthOf cs - 1))) (tvd_not (tvd_B ?_)) (fun e => absurd e ?_) fun _ => std_next rfl
  · exact evd_call (eva_cons (evd_var rfl) (eva_cons evd_int (eva_cons (evd_op (evd_meth (evd_var rfl) eva_nil (by decide) ⟨cs, rfl, ok, rfl⟩) evd_int op2_I0) eva_nil))) ⟨i, 0, widthOf cs - 1, rfl, rfl⟩
  · rw [decide_eq_true h0, decide_eq_true (by omega)]; decide
/-- does the card fall -/
def falls (hs : List Int) (c : Str × Str) : Bool := hs.all fun h => c.2.cps.toList[h.toNat]? == some 118
def inRow (cs : List (Str × Str)) (h : Int) : Prop := 0 ≤ h ∧ ∀ c ∈ cs, h.toNat < c.2.length
def partsD (cs : List (Str × Str)) (hs : List Int) : Da := .tup [.pck (cs.filter (falls hs)), .pck (cs.filter fun c => !falls hs c)]
def sp_parted (K : PySem.W.Frag) : Sp := PuSp K fun ds r => ∃ cs b hs, ds = [.pck cs, seqD b (hs.map .int)] ∧ PackOk cs ∧ hs.length ≤ 1000 ∧ (∀ h ∈ hs, inRow cs h) ∧ r = partsD cs hs
def t_parted (K : PySem.W.Frag) : TS := (tSeq (tAsg (tLst tNil) (gName 2))
  (tSeq (tAsg (tLst tNil) (gName 3))
  (tSeq (tFor (iList K (tMeth (He.ga K "Pack") "cards" (sp_Pack_cards K) [] E0 (tVar 0) tNil)) (gName 4) (tIfS (tB (tCB (rAll K) (tCons (tLc (iSeq K (tVar 1)) (gName 5) tYes (tCall (sp_is_open K) [] E0 (tCons (tOp (rIxT K) (tVar 4) (tC (.int 1))) (tCons (tVar 5) tNil))) [5]) tNil))) (tDrop (tBM K "list" rAppend (tVar 2) (tCons (tVar 4) tNil))) (tDrop (tBM K "list" rAppend (tVar 3) (tCons (tVar 4) tNil)))))
  (tRet (tTup (tCons (tMake (He.ga K "Pack") (sp_Pack_Dinit K) [] E0 (tCons (tVar 2) tNil)) (tCons (tMake (He.ga K "Pack") (sp_Pack_Dinit K) [] E0 (tCons (tVar 3) tNil)) tNil)))))))
def N_parted : List Str := ["pack", "holes", "fallen", "held", "card", "hole"]
theorem pure_parted (h : sp_parted K vs H Q E) : t_parted K { nx := fun _ H' => Q .non H', rt := Q } (L2.start N_parted vs) H := by
  refine pu_body h (fun ds r ⟨_, _, _, e, _⟩ => by rw [e]; exact Nat.le_add_left 2 4) ?_
  rintro _ _ ⟨cs, b, hs, rfl, ok, hl, hi, rfl⟩
  refine std_seq (std_asgO (evo_lst eva_nil (by decide)) (std_seq (std_asgO (evo_lst eva_nil (by decide)) (std_seq ?_))))
  refine std_for (js := [4]) (src_list (evd_meth (evd_var rfl) eva_nil (by decide) ⟨cs, rfl, rfl⟩)) (fun i δ => ∃ e4, δ = [.rep (.pck cs), .rep (seqD b (hs.map .int)), .own (cardsD ((cs.take i).filter (falls hs))), .own (cardsD ((cs.take i).filter fun c => !falls hs c)), e4, .any])
    ⟨.any, rfl⟩ ?_ ?_
  · rintro i d δ1 e ⟨e4, rfl⟩
    obtain ⟨c, ec, rfl⟩ := cards_at e
    have hmem := List.mem_of_getElem? ec
    have rok : c.2.length ≤ 24 := (ok.ok c hmem).2.2.1
    refine ⟨_, tg_name, std_if (b := falls hs c) ?_ (fun hf => ?_) fun hf => ?_⟩
    · refine tvd_B ?_
      have q := evd_allC (K := K) (g := gName 5) (te := tCall (sp_is_open K) [] E0 (tCons (tOp (rIxT K) (tVar 4) (tC (.int 1))) (tCons (tVar 5) tNil))) (vs := [5]) (js := [5]) (f := fun d => match d with | .int h => c.2.cps.toList[h.toNat]? == some 118 | _ => false)
        (src_seq (evd_var (i := 1) (δ := [.rep (.pck cs), .rep (seqD b (hs.map .int)), .own (cardsD ((cs.take i).filter (falls hs))), .own (cardsD ((cs.take i).filter fun c => !falls hs c)), .rep (cardD c), .any]) rfl)) (fun j h => h) (by rw [List.length_map]; omega) fun j d ej => by
          rw [List.getElem?_map] at ej
          cases eh : hs[j]? with
          | none => rw [eh] at ej; cases ej
          | some h =>
            rw [eh] at ej
            cases ej
            obtain ⟨h0, h1⟩ := hi h (List.mem_of_getElem? eh)
            have h2 : h.toNat < c.2.cps.toList.length := by rw [Array.length_toList]; exact h1 c hmem
            refine ⟨_, tg_name, ?_⟩
            refine evd_call (eva_cons (evd_op (evd_var rfl) evd_int (op2_ixT (d := .str c.2) rfl)) (eva_cons (evd_var rfl) eva_nil)) ⟨c.2, h, c.2.cps.toList[h.toNat], rfl, rok, ?_, ?_⟩
            · have := atI_nat (List.getElem?_eq_getElem h2)
              rwa [Int.toNat_of_nonneg h0] at this
            · show Da.bl (c.2.cps.toList[h.toNat]? == some 118) = _
              rw [List.getElem?_eq_getElem h2]
              rfl
      refine q.is ?_
      unfold falls
      rw [List.all_map]; rfl
    · refine std_app rfl (evd_var rfl) ?_ ⟨.rep (cardD c), ?_⟩
      · rw [cardsD_len]
        exact Nat.lt_of_le_of_lt (Nat.le_trans (List.length_filter_le _ _) (Nat.le_trans (List.length_take_le' _ _) ok.len)) (by decide)
      · have e1 : cardsD ((cs.take (i + 1)).filter (falls hs)) = cardsD ((cs.take i).filter (falls hs)) ++ [cardD c] := by
          rw [List.take_add_one, ec]
          show cardsD ((cs.take i ++ [c]).filter _) = _
          rw [List.filter_append, List.filter_cons, if_pos hf]
          unfold cardsD; rw [List.map_append]; rfl
        have e2 : cardsD ((cs.take (i + 1)).filter fun c => !falls hs c) = cardsD ((cs.take i).filter fun c => !falls hs c) := by
          rw [List.take_add_one, ec]
          show cardsD ((cs.take i ++ [c]).filter _) = _
          rw [List.filter_append, List.filter_cons, if_neg (by rw [hf]; decide), List.filter_nil, List.append_nil]
        rw [e1, e2]; rfl
    · refine std_app rfl (evd_var rfl) ?_ ⟨.rep (cardD c), ?_⟩
      · rw [cardsD_len]
        exact Nat.lt_of_le_of_lt (Nat.le_trans (List.length_filter_le _ _) (Nat.le_trans (List.length_take_le' _ _) ok.len)) (by decide)
      · have e1 : cardsD ((cs.take (i + 1)).filter (falls hs)) = cardsD ((cs.take i).filter (falls hs)) := by
          rw [List.take_add_one, ec]
          show cardsD ((cs.take i ++ [c]).filter _) = _
          rw [List.filter_append, List.filter_cons, if_neg (by rw [hf]; decide), List.filter_nil, List.append_nil]
        have e2 : cardsD ((cs.take (i + 1)).filter fun c => !falls hs c) = cardsD ((cs.take i).filter fun c => !falls hs c) ++ [cardD c] := by
          rw [List.take_add_one, ec]
          show cardsD ((cs.take i ++ [c]).filter _) = _
          rw [List.filter_append, List.filter_cons, if_pos (by rw [hf]; decide)]
          unfold cardsD; rw [List.map_append]; rfl
        rw [e1, e2]; rfl
  · rintro δ1 ⟨e4, rfl⟩
    rw [cardsD_len, List.take_length]
    refine std_frz (i := 2) rfl (std_frz (i := 3) rfl ?_)
    exact std_ret (evd_tup (eva_cons (evd_make (evd_var rfl) (ok.filter _)) (eva_cons (evd_make (evd_var rfl) (ok.filter _)) eva_nil)) (Nat.le_add_left 2 99998)) rfl
def sp_drop (K : PySem.W.Frag) : Sp := PuSp K fun ds r => ∃ cs i, ds = [.pck cs, .int i] ∧ PackOk cs ∧ 0 ≤ i ∧ i < widthOf cs ∧ cs ≠ [] ∧ r = partsD cs [i]
def t_drop (K : PySem.W.Frag) : TS := (tSeq (tDrop (tCall (sp_need_pack K) [] E0 (tCons (tVar 0) tNil)))
  (tSeq (tDrop (tCall (sp_need_hole K) [] E0 (tCons (tVar 0) (tCons (tVar 1) tNil))))
  (tRet (tCall (sp_parted K) [] E0 (tCons (tVar 0) (tCons (tLst (tCons (tVar 1) tNil)) tNil))))))
def N_drop : List Str := ["pack", "hole"]
theorem inRow_of {cs : List (Str × Str)} {i : Int} (ok : PackOk cs) (h0 : 0 ≤ i) (h1 : i < widthOf cs) (ne : cs ≠ []) : inRow cs i := by
  obtain ⟨w, hw⟩ := ok.wd
  rw [widthOf_eq hw ne] at h1
  exact ⟨h0, fun c hc => by rw [hw c hc]; omega⟩
theorem pure_drop (h : sp_drop K vs H Q E) : t_drop K { nx := fun _ H' => Q .non H', rt := Q } (L2.start N_drop vs) H := by
  refine pu_body h (fun ds r ⟨_, _, e, _⟩ => by rw [e]; exact Nat.le_refl 2) ?_
  rintro _ _ ⟨cs, i, rfl, ok, h0, h1, ne, rfl⟩
  refine std_seq (std_drop (evd_call (eva_cons (evd_var rfl) eva_nil) ⟨cs, rfl, rfl⟩) (std_seq (std_drop (evd_call (eva_cons (evd_var rfl) (eva_cons (evd_var rfl) eva_nil)) ⟨cs, i, rfl, ok, h0, h1, rfl⟩) ?_)))
  exact std_ret (evd_call (eva_cons (evd_var rfl) (eva_cons (evo_lst (eva_cons (evd_var rfl) eva_nil) (Nat.le_add_left 1 99999)).frz eva_nil)) ⟨cs, true, [i], rfl, ok, Nat.le_add_left 1 999, fun h hh => by rw [List.mem_singleton.mp hh]; exact inRow_of ok h0 h1 ne, rfl⟩) rfl
end
end R
set_option maxHeartbeats 4123456
/-! PD: the law's box. -/
namespace R
open PySem L2
section
variable {K : PySem.W.Frag} {vs : List V} {H : Hp} {Q : VK} {E : XK} {δ : List En} {te : TE}
theorem ite_c {b : Bool} {p q : Prop} (h : b = true) (x : p) : if b = true then p else q := by rw [if_pos h]; exact x
theorem ite_d {b : Bool} {p q : Prop} (h : b = false) (x : q) : if b = true then p else q := by rw [h]; exact iteF x
def cellV (ka kb : Int) (ns : List Int) (k : Int) : Int := if k < ns.length then (ns[k.toNat]?).getD 0 else ka * k + kb
def sp_law_cell (K : PySem.W.Frag) (ka kb : Int) : Sp := PuSp K fun ds r => ∃ ns k, ds = [.scr ns, .int k] ∧ 0 ≤ k ∧ k < 1000 ∧ r = .int (cellV ka kb ns k)
def t_law_cell (K : PySem.W.Frag) (ka : Int) (kb : Int) : TS := (tSeq (tIfS (tTest (tOp (rI0 fun i j => .bl (decide (i < j))) (tVar 1) (tCB (rLenA K) (tCons (tVar 0) tNil)))) (tRet (tOp (rIxL K) (tVar 0) (tVar 1))) tNext)
  (tRet (tOp (rI0 fun i j => .int (i + j)) (tOp (rI CMul fun i j => .int (i * j)) (tC (.int ka)) (tVar 1)) (tC (.int kb)))))
def N_law_cell : List Str := ["script", "k"]
theorem pure_law_cell {ka kb : Int} (h : sp_law_cell K ka kb vs H Q E) : t_law_cell K ka kb { nx := fun _ H' => Q .non H', rt := Q } (L2.start N_law_cell vs) H := by
  refine pu_body h (fun ds r ⟨_, _, e, _⟩ => by rw [e]; exact Nat.le_refl 2) ?_
  rintro _ _ ⟨ns, k, rfl, h0, h1, rfl⟩
  refine std_seq (std_if (b := decide (k < (ns.length : Int))) (tvd_test (evd_op (evd_var rfl) (evd_cb (eva_cons (evd_var rfl) eva_nil) opn_lenC) op2_B0)) (fun e => ?_) fun e => std_next ?_)
  · have e := of_decide_eq_true e
    have hk : k.toNat < ns.length := by omega
    refine std_ret (evd_op (evd_var rfl) (evd_var rfl) (op2_ixC (n := ns[k.toNat]) ?_)) ?_
    · have := atI_nat (List.getElem?_eq_getElem hk)
      rwa [Int.toNat_of_nonneg h0] at this
    · unfold cellV
      rw [if_pos e, List.getElem?_eq_getElem hk]; rfl
  · have e := of_decide_eq_false e
    refine std_ret (evd_op (evd_op evd_int (evd_var rfl) (op2_I (.inr ⟨by omega, by omega⟩))) evd_int op2_I0) ?_
    unfold cellV
    rw [if_neg e]
def sp_law_box (K : PySem.W.Frag) : Sp := BnSp
def t_law_box (K : PySem.W.Frag) : TS := (tRet (tLst (tCons (tCB rMax2 (tCons (tC (.int 0)) (tCons (tOp (rI0 fun i j => .int (i - j)) (tVar 0) (tOp (rI CPow fun i j => .int (i ^ j.toNat)) (tC (.int 10)) (tC (.int 18)))) tNil))) (tCons (tOp (rI (fun _ j => 0 < j) fun i j => .int (i % j)) (tVar 0) (tC (.int 2147483629))) (tCons (tC (.int 0)) tNil)))))
def N_law_box : List Str := ["cell"]
theorem pure_law_box (h : sp_law_box K vs H Q E) : t_law_box K { nx := fun _ H' => Q .non H', rt := Q } (L2.start N_law_box vs) H := by
  obtain ⟨G, c, rfl, le, q⟩ := h
  have hm : 0 ≤ c % 2147483629 ∧ c % 2147483629 < 2147483629 := ⟨Int.emod_nonneg _ (by decide), Int.emod_lt_of_pos _ (by decide)⟩
  have e : EvO K (tLst (tCons (tCB rMax2 (tCons (tC (.int 0)) (tCons (tOp (rI0 fun i j => .int (i - j)) (tVar 0) (tOp (rI CPow fun i j => .int (i ^ j.toNat)) (tC (.int 10)) (tC (.int 18)))) tNil))) (tCons (tOp (rI (fun _ j => 0 < j) fun i j => .int (i % j)) (tVar 0) (tC (.int 2147483629))) (tCons (tC (.int 0)) tNil))))
      (envOf N_law_box ([Da.int c].map .rep)) [.int (if c - 10 ^ (18 : Int).toNat > 0 then c - 10 ^ (18 : Int).toNat else 0), .int (c % 2147483629), .int 0] :=
    evo_lst (eva_cons (evd_cb (eva_cons evd_int (eva_cons (evd_op (evd_var rfl) (evd_op evd_int evd_int (op2_I (by unfold CPow; decide))) op2_I0) eva_nil)) opn_max2) (eva_cons (evd_op (evd_var rfl) evd_int (op2_I (by decide))) (eva_cons evd_int eva_nil))) (Nat.le_add_left 3 99997)
  refine e none H none _ G H le (er_start (.cons (.int c) .nil) (Nat.le_refl 1)) _ fun l vs G' H' x n1 n2 n3 rs => ?_
  cases rs with
  | cons r1 rs => cases rs with
    | cons r2 rs => cases rs with
      | cons r3 rs =>
        cases rs
        rw [r1.intI, r2.intI, r3.intI] at n3
        refine q l G' H' _ _ x n1 n2 n3 ⟨?_, hm.1, hm.2, Int.le_refl 0, Int.le_refl 0⟩
        split <;> omega
def sp_law_take (K : PySem.W.Frag) : Sp := BxSp K (fun _ => 1) (fun ds => ∃ m : Int, ds = [.int m] ∧ 0 < m ∧ m ≤ 1000000) (fun ds r => ∃ m d : Int, ds = [.int m] ∧ r = .int d ∧ 0 ≤ d ∧ d < m)
def t_law_take (K : PySem.W.Frag) (kc : Int) : TS := (tSeq (tIfS (tTest (tOp (rI0 fun i j => .bl (decide (j < i))) (tOp (rIxL K) (tVar 0) (tC (.int 0))) (tC (.int 0)))) (tSeq (tAsg (tOp (rI (fun _ j => 0 < j) fun i j => .int (i % j)) (tOp (rIxL K) (tVar 0) (tC (.int 0))) (tVar 1)) (gName 4))
  (tSeq (tAsg (tOp (rI CDiv fun i j => .int (i / j)) (tOp (rIxL K) (tVar 0) (tC (.int 0))) (tVar 1)) (gSub (tVar 0) (tC (.int 0)) rSetL))
  (tRet (tVar 4)))) tNext)
  (tSeq (tAsg (tOp (rI0 fun i j => .int (i + j)) (tOp (rIxL K) (tVar 0) (tC (.int 2))) (tC (.int 1))) (gSub (tVar 0) (tC (.int 2)) rSetL))
  (tSeq (tAsg (tOp (rI (fun _ j => 0 < j) fun i j => .int (i % j)) (tOp (rI CPow fun i j => .int (i ^ j.toNat)) (tOp (rI0 fun i j => .int (i + j)) (tOp (rI0 fun i j => .int (i + j)) (tOp (rIxL K) (tVar 0) (tC (.int 1))) (tOp (rI CMul fun i j => .int (i * j)) (tC (.int 7919)) (tOp (rIxL K) (tVar 0) (tC (.int 2))))) (tC (.int kc))) (tC (.int 5))) (tC (.int 2147483647))) (gName 2))
  (tSeq (tAsg (tOp (rI (fun _ j => 0 < j) fun i j => .int (i % j)) (tOp (rI CPow fun i j => .int (i ^ j.toNat)) (tOp (rI0 fun i j => .int (i + j)) (tOp (rI0 fun i j => .int (i + j)) (tOp (rI CDiv fun i j => .int (i / j)) (tVar 2) (tC (.int 8))) (tOp (rI CMul fun i j => .int (i * j)) (tOp (rI CMul fun i j => .int (i * j)) (tC (.int 104729)) (tOp (rIxL K) (tVar 0) (tC (.int 2)))) (tOp (rIxL K) (tVar 0) (tC (.int 2))))) (tC (.int 11))) (tC (.int 3))) (tC (.int 2147483587))) (gName 3))
  (tRet (tOp (rI (fun _ j => 0 < j) fun i j => .int (i % j)) (tOp (rI0 fun i j => .int (i + j)) (tOp (rI CDiv fun i j => .int (i / j)) (tVar 2) (tC (.int 4))) (tOp (rI CMul fun i j => .int (i * j)) (tC (.int 536870909)) (tOp (rI CDiv fun i j => .int (i / j)) (tVar 3) (tC (.int 4))))) (tVar 1)))))))
def N_law_take : List Str := ["box", "many", "one", "two", "digit"]
theorem BoxStep.set {H : Hp} {b : Addr} {c0 c1 c2 : Int} {e0 e1 e2 : Int} (hb : H b = some (.lst [.int c0, .int c1, .int c2])) (h : ∀ n, BoxV c0 c1 c2 n → BoxV e0 e1 e2 (n + 1)) : BoxStep (some b) H (L2.upd H b (.lst [.int e0, .int e1, .int e2])) 1 := fun b' d0 d1 d2 n e hb' v => by
  cases e
  rw [hb] at hb'
  cases hb'
  exact ⟨e0, e1, e2, upd_same, h n v⟩
theorem val_I0 {σ : L2.St} {g : Int → Int → Int} {ta tb : TE} {i j : Int} (ha : Val ta σ H (.int i)) (hb : Val tb σ H (.int j)) : Val (tOp (rI0 fun i j => .int (g i j)) ta tb) σ H (.int (g i j)) := val_op ha hb fun Q q => ⟨i, j, rfl, rfl, q⟩
theorem val_B0 {σ : L2.St} {g : Int → Int → Bool} {ta tb : TE} {i j : Int} (ha : Val ta σ H (.int i)) (hb : Val tb σ H (.int j)) : Ans (tTest (tOp (rI0 fun i j => .bl (g i j)) ta tb)) σ H (g i j) := ans_cmp ha hb fun Q q => ⟨i, j, rfl, rfl, q⟩
theorem val_I {σ : L2.St} {C : Int → Int → Prop} {g : Int → Int → Int} {ta tb : TE} {i j : Int} (ha : Val ta σ H (.int i)) (hb : Val tb σ H (.int j)) (hc : C i j) : Val (tOp (rI C fun i j => .int (g i j)) ta tb) σ H (.int (g i j)) := val_op ha hb fun Q q => ⟨i, j, rfl, rfl, hc, q⟩
theorem val_at {σ : L2.St} {b : Addr} {i : Nat} {k : Int} {xs : List V} {v : V} (hs : σ[i]? = some (some (.ref b))) (hb : H b = some (.lst xs)) (e : atI xs k = some v) : Val (tOp (rIxL K) (tVar i) (tC (.int k))) σ H v :=
  val_op (val_var hs) val_c fun Q q => ⟨b, xs, k, v, rfl, rfl, SqL.of hb, e, q⟩
theorem pt_ret {te : TE} {D : Ends} {σ : L2.St} (h : te σ H D.rt) : tRet te D σ H := h
theorem ts_sub {σ : L2.St} {D : Ends} {b : Addr} {i : Nat} {k : Int} {xs : List V} {v : V} {te : TE} {j : Nat} (he : Val te σ H v) (hs : σ[i]? = some (some (.ref b))) (hb : H b = some (.lst xs)) (hj : ixN xs.length k = some j)
    (h : D.nx σ (upd H b (.lst (xs.set j v)))) : tAsg te (gSub (tVar i) (tC (.int k)) rSetL) D σ H := he _ ⟨_, hs, b, xs, k, j, rfl, rfl, hb, hj, h⟩
theorem ts_nm {σ : L2.St} {D : Ends} {i : Nat} {v : V} {te : TE} (he : Val te σ H v) (h : D.nx (σ.set i (some v)) H) : tAsg te (gName i) D σ H := he _ h
theorem pure_law_take {kc : Int} (hk : 0 ≤ kc ∧ kc ≤ 100000) (h : sp_law_take K vs H Q E) : t_law_take K kc { nx := fun _ H' => Q .non H', rt := Q } (L2.start N_law_take vs) H := by
  obtain ⟨G, b, us, ds, n, c0, c1, c2, rfl, le, g, hb, bv, hn, rs, ⟨m, rfl, hm0, hm1⟩, q⟩ := h
  cases rs with
  | cons r1 rs =>
    cases rs
    obtain rfl := r1.intI
    obtain ⟨p0, p1, p2, p3, p4⟩ := bv
    have hn : n + 1 ≤ 1000000 := hn
    have hne : H b ≠ none := by rw [hb]; exact fun z => nomatch z
    have s0 : (L2.start N_law_take [.ref b, .int m])[0]? = some (some (V.ref b)) := rfl
    have s1 : (L2.start N_law_take [.ref b, .int m])[1]? = some (some (V.int m)) := rfl
    have sl : (L2.start N_law_take [.ref b, .int m]).length = 5 := rfl
    generalize L2.start N_law_take [.ref b, .int m] = σ at s0 s1 sl
    unfold t_law_take
    refine pt_seq (pt_if (val_B0 (val_at s0 hb (v := .int c0) rfl) val_c _ ?_))
    by_cases hc : 0 < c0
    · refine ite_c (decide_eq_true hc) ?_
      refine pt_seq (ts_nm (val_I (val_at s0 hb (v := .int c0) rfl) (val_var s1) hm0) ?_)
      have s0' : (σ.set 4 (some (.int (c0 % m))))[0]? = some (some (V.ref b)) := by rw [List.getElem?_set_ne (by decide)]; exact s0
      have s1' : (σ.set 4 (some (.int (c0 % m))))[1]? = some (some (V.int m)) := by rw [List.getElem?_set_ne (by decide)]; exact s1
      refine pt_seq (ts_sub (val_I (val_at s0' hb (v := .int c0) rfl) (val_var s1') ⟨hm0, by omega⟩) s0' hb (j := 0) rfl ?_)
      refine ⟨.int (c0 % m), List.getElem?_set_self (by rw [sl]; decide), ?_⟩
      exact q _ (.int (c0 % m)) G _ (Ext.boxed le g hne) (BoxStep.set hb fun n bv => ⟨Int.ediv_nonneg p0 (Int.le_of_lt hm0), bv.2.1, bv.2.2.1, bv.2.2.2.1, by have := bv.2.2.2.2; omega⟩) (.int _) ⟨m, c0 % m, rfl, rfl, Int.emod_nonneg _ (by omega), Int.emod_lt_of_pos _ hm0⟩
    · refine ite_d (decide_eq_false hc) (pt_nxs ?_)
      have e0 : c0 = 0 := by omega
      refine pt_seq (ts_sub (val_I0 (val_at s0 hb (v := .int c2) rfl) val_c) s0 hb (j := 2) rfl ?_)
      have hb2 : upd H b (.lst ([V.int c0, .int c1, .int c2].set 2 (.int (c2 + 1)))) b = some (.lst [.int c0, .int c1, .int (c2 + 1)]) := upd_same
      generalize hH : upd H b (.lst ([V.int c0, .int c1, .int c2].set 2 (.int (c2 + 1)))) = H2 at hb2
      have hx : 0 ≤ c1 + 7919 * (c2 + 1) + kc ∧ c1 + 7919 * (c2 + 1) + kc < 2 ^ 50 := by omega
      dsimp only
      refine pt_seq (ts_nm (v := .int ((c1 + 7919 * (c2 + 1) + kc) ^ (5 : Int).toNat % 2147483647)) (val_I (val_I (val_I0 (val_I0 (val_at s0 hb2 (v := .int c1) rfl) (val_I val_c (val_at s0 hb2 (v := .int (c2 + 1)) rfl) (.inl (by decide)))) val_c) val_c ⟨by decide, by decide, by omega⟩) val_c (by decide)) ?_)
      have hone : 0 ≤ (c1 + 7919 * (c2 + 1) + kc) ^ (5 : Int).toNat % 2147483647 ∧ (c1 + 7919 * (c2 + 1) + kc) ^ (5 : Int).toNat % 2147483647 < 2147483647 := ⟨Int.emod_nonneg _ (by decide), Int.emod_lt_of_pos _ (by decide)⟩
      generalize (c1 + 7919 * (c2 + 1) + kc) ^ (5 : Int).toNat % 2147483647 = one at hone
      have s0' : (σ.set 2 (some (.int one)))[0]? = some (some (V.ref b)) := by rw [List.getElem?_set_ne (by decide)]; exact s0
      have s1' : (σ.set 2 (some (.int one)))[1]? = some (some (V.int m)) := by rw [List.getElem?_set_ne (by decide)]; exact s1
      have s2' : (σ.set 2 (some (.int one)))[2]? = some (some (V.int one)) := List.getElem?_set_self (by rw [sl]; decide)
      have sl' : (σ.set 2 (some (.int one))).length = 5 := by rw [List.length_set]; exact sl
      generalize σ.set 2 (some (.int one)) = σ2 at s0' s1' s2' sl'
      have hy : 0 ≤ 104729 * (c2 + 1) * (c2 + 1) ∧ 104729 * (c2 + 1) * (c2 + 1) ≤ 104729 * 1000000 * 1000000 := by
        have a1 : 0 ≤ (c2 + 1) * (c2 + 1) := Int.mul_nonneg (by omega) (by omega)
        have a2 : (c2 + 1) * (c2 + 1) ≤ 1000000 * 1000000 := Int.mul_le_mul (by omega) (by omega) (by omega) (by decide)
        rw [Int.mul_assoc]; omega
      dsimp only
      refine pt_seq (ts_nm (v := .int ((one / 8 + 104729 * (c2 + 1) * (c2 + 1) + 11) ^ (3 : Int).toNat % 2147483587)) (val_I (val_I (val_I0 (val_I0 (val_I (val_var s2') val_c ⟨by decide, by decide⟩) (val_I (val_I val_c (val_at s0' hb2 (v := .int (c2 + 1)) rfl) (.inl (by decide))) (val_at s0' hb2 (v := .int (c2 + 1)) rfl) (.inr ⟨by omega, by omega⟩))) val_c) val_c ⟨by decide, by decide, by omega⟩) val_c (by decide)) ?_)
      generalize (one / 8 + 104729 * (c2 + 1) * (c2 + 1) + 11) ^ (3 : Int).toNat % 2147483587 = two
      have s1'' : (σ2.set 3 (some (.int two)))[1]? = some (some (V.int m)) := by rw [List.getElem?_set_ne (by decide)]; exact s1'
      have s2'' : (σ2.set 3 (some (.int two)))[2]? = some (some (V.int one)) := by rw [List.getElem?_set_ne (by decide)]; exact s2'
      have s3'' : (σ2.set 3 (some (.int two)))[3]? = some (some (V.int two)) := List.getElem?_set_self (by rw [sl']; decide)
      dsimp only
      refine pt_ret (val_I (val_I0 (val_I (val_var s2'') val_c ⟨by decide, by decide⟩) (val_I val_c (val_I (val_var s3'') val_c ⟨by decide, by decide⟩) (.inl (by decide)))) (val_var s1'') hm0 _ ?_)
      have hH' : H2 = upd H b (.lst [.int c0, .int c1, .int (c2 + 1)]) := hH.symm
      rw [hH']
      exact q _ (.int _) G _ (Ext.boxed le g hne) (BoxStep.set hb fun n bv => ⟨p0, bv.2.1, bv.2.2.1, by omega, by have := bv.2.2.2.2; omega⟩) (.int _) ⟨m, _, rfl, rfl, Int.emod_nonneg _ (by omega), Int.emod_lt_of_pos _ hm0⟩
/-- a draw -/
theorem take_ev {i n : Nat} {m : Int} (hi : δ[i]? = some (.box n)) (h : Evd K te δ (.int m)) (hn : n + 1 ≤ 1000000) (h0 : 0 < m) (h1 : m ≤ 1000000) :
    Eve K (tCall (sp_law_take K) [] E0 (tCons (tVar i) (tCons te tNil))) δ 1 (fun r => ∃ d : Int, r = .int d ∧ 0 ≤ d ∧ d < m) :=
  (eve_call (c := fun _ => 1) hi (eva_cons h eva_nil) hn ⟨m, rfl, h0, h1⟩ (Nat.le_refl 1)).mono fun r ⟨m', d, e, p⟩ => by cases e; exact ⟨d, p⟩
def sp_law_even (K : PySem.W.Frag) : Sp := PuSp K fun ds r => ∃ d, ds = [d, d] ∧ Rpr d ∧ r = .bl true
def t_law_even (K : PySem.W.Frag) : TS := (tRet (tAndV (tOp (rEqD K) (tVar 0) (tVar 1)) (tOp rEq (tCB (rRepr K) (tCons (tVar 0) tNil)) (tCB (rRepr K) (tCons (tVar 1) tNil)))))
def N_law_even : List Str := ["told", "due"]
theorem pure_law_even (h : sp_law_even K vs H Q E) : t_law_even K { nx := fun _ H' => Q .non H', rt := Q } (L2.start N_law_even vs) H := by
  refine pu_body h (fun ds r ⟨_, e, _⟩ => by rw [e]; exact Nat.le_refl 2) ?_
  rintro _ _ ⟨d, rfl, rp, rfl⟩
  refine std_ret (d := .bl (true && decide ((toPy d).shown = (toPy d).shown))) ?_ (by rw [decide_eq_true rfl]; rfl)
  exact evd_and (evd_op (evd_var rfl) (evd_var rfl) (op2_eqSame rp.p rp.shaped)) fun _ => evd_op (evd_cb (eva_cons (evd_var rfl) eva_nil) (opn_repr rp)) (evd_cb (eva_cons (evd_var rfl) eva_nil) (opn_repr rp)) op2_eqS
end
end R
set_option maxHeartbeats 4123456
/-! PE: the law's names. -/
namespace R
open PySem L2
section
variable {K : PySem.W.Frag} {vs : List V} {H : Hp} {Q : VK} {E : XK} {δ : List En} {te : TE}
theorem str_ext {a b : Str} (h : a.cps.toList = b.cps.toList) : a = b := by
  cases a; cases b
  exact congrArg Str.mk (Array.toList_inj.mp h)
theorem cp_app (a b : Str) : (a ++ b).cps.toList = a.cps.toList ++ b.cps.toList := by
  show (a.cps ++ b.cps).toList = _
  rw [Array.toList_append]
theorem str_len (a : Str) : a.length = a.cps.toList.length := by rw [Array.length_toList]; rfl
theorem cp_sign (c : Nat) : (⟨#[c]⟩ : Str).cps.toList = [c] := rfl
theorem cp_fold : ∀ (l : List (Array Nat)) (acc : Array Nat), (l.foldl (· ++ ·) acc).toList = acc.toList ++ (l.map Array.toList).flatten
  | [], acc => by simp
  | x :: l, acc => by
    rw [List.foldl_cons, cp_fold l, Array.toList_append, List.map_cons, List.flatten_cons, List.append_assoc]
theorem cp_rep1 (c k : Nat) : (repS ⟨#[c]⟩ k).cps.toList = List.replicate k c := by
  show (List.foldl (· ++ ·) #[] (List.replicate k #[c])).toList = _
  rw [cp_fold, List.map_replicate]
  induction k with
  | zero => rfl
  | succ k ih =>
    rw [List.replicate_succ, List.flatten_cons, List.replicate_succ]
    have : (#[] : Array Nat).toList ++ (List.replicate k [c]).flatten = List.replicate k c := ih
    show [c] ++ (List.replicate k [c]).flatten = _
    have h2 : (List.replicate k [c]).flatten = List.replicate k c := this
    rw [h2]; rfl
theorem cp_join : ∀ cs : List Nat, (Str.join ⟨#[]⟩ (cs.map fun c => (⟨#[c]⟩ : Str))).cps.toList = cs
  | [] => rfl
  | [c] => rfl
  | c :: d :: cs => by
    show ((⟨#[c]⟩ : Str) ++ ⟨#[]⟩ ++ Str.join ⟨#[]⟩ ((d :: cs).map fun c => (⟨#[c]⟩ : Str))).cps.toList = _
    rw [cp_app, cp_app, cp_join (d :: cs)]; rfl
theorem nil_text : ("" : Str) = ⟨#[]⟩ := by decide +kernel
theorem lift_list {α : Type} {mk : α → Da} {p : α → Prop} : ∀ {rs : List Da}, (∀ (i : Nat) r, rs[i]? = some r → ∃ a, r = mk a ∧ p a) → ∃ as : List α, rs = as.map mk ∧ ∀ a ∈ as, p a
  | [], _ => ⟨[], rfl, fun a h => nomatch h⟩
  | r :: rs, h => by
    obtain ⟨a, rfl, pa⟩ := h 0 r rfl
    obtain ⟨as, rfl, pas⟩ := lift_list (rs := rs) fun i r e => h (i + 1) r e
    refine ⟨a :: as, rfl, fun b hb => ?_⟩
    rcases List.mem_cons.mp hb with rfl | hb
    · exact pa
    · exact pas b hb
def abcAt (i : Nat) : Nat := (abcS.cps.toList[i]?).getD 0
theorem abc_len : abcS.cps.toList.length = 26 := by decide +kernel
theorem abc_size : abcS.length ≤ 100000 := by decide +kernel
theorem abc_get {i : Nat} (h : i < 26) : abcS.cps.toList[i]? = some (abcAt i) := by
  unfold abcAt
  rw [List.getElem?_eq_getElem (by rw [abc_len]; exact h)]; rfl
theorem abc_mem {i : Nat} (h : i < 26) : abcAt i ∈ abcS.cps.toList := List.mem_of_getElem? (abc_get h)
theorem abc_inj0 : ∀ i j : Fin 26, abcAt i = abcAt j → i = j := by decide +kernel
theorem abc_inj {i j : Nat} (hi : i < 26) (hj : j < 26) (h : abcAt i = abcAt j) : i = j := Fin.mk.inj (abc_inj0 ⟨i, hi⟩ ⟨j, hj⟩ h)
theorem abc_ix {i : Int} (h0 : 0 ≤ i) (h1 : i < 26) : atI abcS.cps.toList i = some (abcAt i.toNat) := by
  have := atI_nat (abc_get (i := i.toNat) (by omega))
  rwa [Int.toNat_of_nonneg h0] at this
def wordS (f k : Int) : Str := ⟨#[abcAt ((f + 7 * k) % 26).toNat]⟩ ++ ⟨#[abcAt (k / 26).toNat]⟩
def longS (stem : Str) (a : Int) (z : Str) : Str := cutS stem none (some a) ++ z ++ cutS stem (some a) none
theorem cp_cut1 {stem : Str} {a : Int} (h0 : 0 ≤ a) : (cutS stem none (some a)).cps.toList = stem.cps.toList.take a.toNat := by
  obtain ⟨n, rfl⟩ := Int.eq_ofNat_of_zero_le h0
  show ((stem.cps.toList.drop 0).take (HT.sIx stem.length stem.length (some (n : Int)) - 0)) = _
  rw [HT.sIx_nat, List.drop_zero, Nat.sub_zero, str_len, ← List.take_eq_take_min]; rfl
theorem cp_cut2 {stem : Str} {a : Int} (h0 : 0 ≤ a) : (cutS stem (some a) none).cps.toList = stem.cps.toList.drop a.toNat := by
  obtain ⟨n, rfl⟩ := Int.eq_ofNat_of_zero_le h0
  show ((stem.cps.toList.drop (HT.sIx stem.length 0 (some (n : Int)))).take (stem.length - HT.sIx stem.length 0 (some (n : Int)))) = _
  rw [HT.sIx_nat, str_len]
  rw [List.take_of_length_le (by rw [List.length_drop]; exact Nat.le_refl _)]
  show List.drop (min n stem.cps.toList.length) _ = List.drop n _
  by_cases h : n ≤ stem.cps.toList.length
  · rw [Nat.min_eq_left h]
  · rw [Nat.min_eq_right (by omega), List.drop_length, List.drop_eq_nil_of_le (by omega)]
theorem long_cp {stem z : Str} {a : Int} (h0 : 0 ≤ a) : (longS stem a z).cps.toList = stem.cps.toList.take a.toNat ++ z.cps.toList ++ stem.cps.toList.drop a.toNat := by
  unfold longS
  rw [cp_app, cp_app, cp_cut1 h0, cp_cut2 h0]
theorem word_cp (f k : Int) : (wordS f k).cps.toList = [abcAt ((f + 7 * k) % 26).toNat, abcAt (k / 26).toNat] := by
  unfold wordS
  rw [cp_app]; rfl
theorem nodup_range {α : Type} {n : Nat} {g : Nat → α} (h : ∀ i j, i < n → j < n → g i = g j → i = j) : ((List.range n).map g).Nodup := by
  refine List.pairwise_iff_getElem.mpr fun i j hi hj hij e => ?_
  rw [List.getElem_map, List.getElem_map, List.getElem_range, List.getElem_range] at e
  rw [List.length_map, List.length_range] at hi hj
  have := h i j hi hj e
  omega
theorem mem_range {α : Type} {n : Nat} {g : Nat → α} {z : α} (h : z ∈ (List.range n).map g) : ∃ i, i < n ∧ z = g i := by
  obtain ⟨i, hi, rfl⟩ := List.mem_map.mp h
  exact ⟨i, List.mem_range.mp hi, rfl⟩
structure NamesOk (many : Int) (zs : List Str) : Prop where
  len : zs.length = many.toNat
  nd : zs.Nodup
  ok : ∀ z ∈ zs, nameOk z
theorem names_short {f many : Int} (h0 : 0 ≤ f) (h1 : f < 26) (hm : many < 9) : NamesOk many ((List.range many.toNat).map fun (i : Nat) => repS ⟨#[abcAt f.toNat]⟩ ((0 + (i : Int)) + 1).toNat) := by
  refine ⟨by rw [List.length_map, List.length_range], nodup_range fun i j hi hj e => ?_, fun z hz => ?_⟩
  · have e := congrArg Str.length e
    rw [repS_len, repS_len] at e
    simp only [show (⟨#[abcAt f.toNat]⟩ : Str).length = 1 from rfl, Nat.mul_one] at e
    omega
  · obtain ⟨i, hi, rfl⟩ := mem_range hz
    have el : (repS ⟨#[abcAt f.toNat]⟩ ((0 + (i : Int)) + 1).toNat).length = ((0 + (i : Int)) + 1).toNat := by
      rw [repS_len]
      show _ * 1 = _
      rw [Nat.mul_one]
    refine ⟨by rw [el]; omega, by rw [el]; omega, fun c hc => ?_⟩
    rw [cp_rep1] at hc
    rw [(List.mem_replicate.mp hc).2]
    exact abc_mem (by omega)
theorem names_long {f a many : Int} {stem : Str} (h0 : 0 ≤ f) (ha : 0 ≤ a) (hm : many ≤ 60) (hs : stem.length ≤ 6) (hc : ∀ c ∈ stem.cps.toList, c ∈ abcS.cps.toList) :
    NamesOk many ((List.range many.toNat).map fun (i : Nat) => longS stem a (wordS f (0 + (i : Int)))) := by
  refine ⟨by rw [List.length_map, List.length_range], nodup_range fun i j hi hj e => ?_, fun z hz => ?_⟩
  · have e := congrArg (fun z : Str => z.cps.toList) e
    simp only [long_cp ha, word_cp] at e
    have e2 := List.append_cancel_left (List.append_cancel_right e)
    injection e2 with e3 e4
    injection e4 with e5 _
    have x1 := abc_inj (by omega) (by omega) e3
    have x2 := abc_inj (by omega) (by omega) e5
    omega
  · obtain ⟨i, hi, rfl⟩ := mem_range hz
    have el : (longS stem a (wordS f (0 + (i : Int)))).length = stem.length + 2 := by
      rw [str_len, long_cp ha, word_cp, str_len, List.length_append, List.length_append, List.length_take, List.length_drop]
      simp only [List.length_cons, List.length_nil]
      omega
    refine ⟨by rw [el]; omega, by rw [el]; omega, fun c hcc => ?_⟩
    rw [long_cp ha, word_cp] at hcc
    rcases List.mem_append.mp hcc with hcc | hcc
    · rcases List.mem_append.mp hcc with hcc | hcc
      · exact hc c (List.mem_of_mem_take hcc)
      · rcases List.mem_cons.mp hcc with rfl | hcc
        · exact abc_mem (by omega)
        · rw [List.mem_singleton.mp hcc]
          exact abc_mem (by omega)
    · exact hc c (List.mem_of_mem_drop hcc)
def sp_law_names (K : PySem.W.Frag) : Sp := BxSp K (fun _ => 10) (fun ds => ∃ m : Int, ds = [.int m] ∧ 0 ≤ m ∧ m ≤ 60) (fun ds r => ∃ (m : Int) (zs : List Str), ds = [.int m] ∧ r = .lst (zs.map .str) ∧ NamesOk m zs)
def t_law_names (K : PySem.W.Frag) : TS := (tSeq (tAsg (tC (.str "abcdefghijklmnopqrstuvwxyz")) (gName 2))
  (tSeq (tAsg (tTup (tCons (tCall (sp_law_take K) [] E0 (tCons (tVar 0) (tCons (tC (.int 26)) tNil))) (tCons (tCall (sp_law_take K) [] E0 (tCons (tVar 0) (tCons (tC (.int 6)) tNil))) (tCons (tCall (sp_law_take K) [] E0 (tCons (tVar 0) (tCons (tC (.int 3)) tNil))) tNil)))) (gTup K 3 (gCons (gName 5) (gCons (gName 6) (gCons (gName 7) gNil)))))
  (tSeq (tAsg (tBM K "str" (rJoin K) (tC (.str "")) (tCons (tLc (iRng1 (tCons (tCall (sp_law_take K) [] E0 (tCons (tVar 0) (tCons (tC (.int 7)) tNil))) tNil)) (gName 8) tYes (tOp rIxS (tVar 2) (tCall (sp_law_take K) [] E0 (tCons (tVar 0) (tCons (tC (.int 26)) tNil)))) [8]) tNil)) (gName 3))
  (tSeq (tIfS (tAnd (tTest (tOp rEq (tVar 7) (tC (.int 0)))) (tTest (tOp (rI0 fun i j => .bl (decide (i < j))) (tVar 1) (tC (.int 9))))) (tRet (tLc (iRng1 (tCons (tVar 1) tNil)) (gName 8) tYes (tOp rMulS (tOp rIxS (tVar 2) (tVar 5)) (tOp (rI0 fun i j => .int (i + j)) (tVar 8) (tC (.int 1)))) [8])) tNext)
  (tSeq (tAsg (tLc (iRng1 (tCons (tVar 1) tNil)) (gName 8) tYes (tOp rAddS (tOp rIxS (tVar 2) (tOp (rI (fun _ j => 0 < j) fun i j => .int (i % j)) (tOp (rI0 fun i j => .int (i + j)) (tVar 5) (tOp (rI CMul fun i j => .int (i * j)) (tC (.int 7)) (tVar 8))) (tC (.int 26)))) (tOp rIxS (tVar 2) (tOp (rI CDiv fun i j => .int (i / j)) (tVar 8) (tC (.int 26))))) [8]) (gName 4))
  (tRet (tLc (iList K (tVar 4)) (gName 9) tYes (tOp rAddS (tOp rAddS (tSl rSlS (tVar 3) tNoPart (tPart (tVar 6))) (tVar 9)) (tSl rSlS (tVar 3) (tPart (tVar 6)) tNoPart)) [9])))))))
def N_law_names : List Str := ["box", "many", "letters", "stem", "words", "first", "at", "way", "k", "word"]
theorem irng_map {n : Nat} {f : Da → Da} {g : Nat → Da} (h : ∀ i : Nat, i < n → f (.int (0 + (i : Int))) = g i) : (irng 0 n).map f = (List.range n).map g := by
  unfold irng
  rw [List.map_map]
  exact List.map_congr_left fun i hi => h i (List.mem_range.mp hi)
theorem pure_law_names (h : sp_law_names K vs H Q E) : t_law_names K { nx := fun _ H' => Q .non H', rt := Q } (L2.start N_law_names vs) H := by
  refine bx_body h (fun ds ⟨_, e, _⟩ => by rw [e]; exact Nat.le_add_left 2 8) ?_
  rintro n _ hn ⟨m, rfl, m0, m1⟩
  have hn : n + 10 ≤ 1000000 := hn
  refine std_seq (std_asg evd_str (std_seq ?_))
  refine std_asgTE (c := 1 + (1 + (1 + 0))) (P := fun d => ∃ f a w : Int, d = .tup [.int f, .int a, .int w] ∧ (0 ≤ f ∧ f < 26) ∧ (0 ≤ a ∧ a < 6) ∧ (0 ≤ w ∧ w < 3)) (js := [5] ++ ([6] ++ ([7] ++ [])))
    (eve_tup (eveA_cons (take_ev rfl evd_int (by omega) (by decide) (by decide)) fun _ => eveA_cons (take_ev rfl evd_int (by omega) (by decide) (by decide)) fun _ => eveA_cons (take_ev rfl evd_int (by omega) (by decide) (by decide)) fun _ => eveA_nil) ?_) ?_
  · rintro ds ⟨_, _, rfl, ⟨f, rfl, hf⟩, _, _, rfl, ⟨a, rfl, ha⟩, _, _, rfl, ⟨w, rfl, hw⟩, rfl⟩
    exact ⟨Nat.le_add_left 3 99997, f, a, w, rfl, hf, ha, hw⟩
  rintro _ ⟨f, a, w, rfl, hf, ha, hw⟩
  refine ⟨_, tg_tup (tgs_cons tg_name (tgs_cons tg_name (tgs_cons tg_name tgs_nil))) rfl, std_seq ?_⟩
  refine std_asgE (c := 7) (P := fun d => ∃ z : Str, d = .str z ∧ z.length ≤ 6 ∧ ∀ c ∈ z.cps.toList, c ∈ abcS.cps.toList) ?_ ?_
  · refine eve_join evd_str (EveO.frz (eveo_lcE (c0 := 1) (c := 1) (N := 6) (js := [8]) (PL := fun ds => ∃ k : Int, ds = irng 0 k.toNat ∧ k < 7) (PT := fun _ _ r => ∃ ch : Nat, r = .str ⟨#[ch]⟩ ∧ ch ∈ abcS.cps.toList)
      (src_rng1E (take_ev rfl evd_int (by show n + _ + 1 ≤ _; omega) (by decide) (by decide)) fun d ⟨k, e, k0, k1⟩ => ⟨k, e, by omega, by omega, k1⟩) (fun j h => h) (fun ds ⟨k, e, hk⟩ => by rw [e, irng_len]; omega) (by decide) ?_)) ?_
    · rintro _ ⟨k, rfl, hk⟩ i d e
      obtain ⟨hi, rfl⟩ := irng_at e
      refine ⟨_, tg_name, ?_⟩
      refine (eve_op (c1 := 0) (c2 := 1) (evd_var (d := .str abcS) rfl).eve (take_ev (n := n + (1 + (1 + (1 + 0))) + (1 + i * 1) + 0) (m := 26) rfl evd_int (by omega) (by decide) (by decide)) ?_)
      rintro _ _ rfl ⟨x, rfl, x0, x1⟩
      exact ⟨_, op2_ixS abc_size (abc_ix x0 x1), _, rfl, abc_mem (by omega)⟩
    · rintro _ ⟨rs, rfl, _, ⟨k, rfl, hk⟩, hl, hP⟩
      obtain ⟨chs, rfl, hc⟩ := lift_list (mk := fun c => Da.str ⟨#[c]⟩) hP
      rw [List.length_map, irng_len] at hl
      refine ⟨chs.map fun c => ⟨#[c]⟩, by rw [List.map_map]; rfl, ?_, _, rfl, ?_, ?_⟩
      · rw [List.map_map, List.length_map]
        have e1 : (chs.map ((fun x : Str => x.length) ∘ fun c => (⟨#[c]⟩ : Str))).sum = chs.length := by
          have : ((fun x : Str => x.length) ∘ fun c => (⟨#[c]⟩ : Str)) = fun _ => 1 := rfl
          rw [this, List.map_const', List.sum_replicate_nat, Nat.mul_one]
        rw [e1, nil_text]
        show chs.length + chs.length * 0 ≤ _
        omega
      · rw [nil_text, str_len, cp_join]; omega
      · rw [nil_text, cp_join]; exact hc
  rintro _ ⟨stem, rfl, hs, hc⟩
  refine std_seq (std_if (b := decide (w = 0) && decide (m < 9)) (tvd_and (tvd_test (evd_op (evd_var rfl) evd_int op2_eqI)) fun _ => tvd_test (evd_op (evd_var rfl) evd_int op2_B0)) (fun e => ?_) fun _ => std_next (std_seq ?_))
  · have hm9 : m < 9 := of_decide_eq_true (Bool.and_eq_true_iff.mp e).2
    refine std_ret (EvO.frz (evo_map (js := [8]) (f := fun d => match d with | .int k => .str (repS ⟨#[abcAt f.toNat]⟩ (k + 1).toNat) | _ => .non) (src_rng1 (n := m) (eva_cons (evd_var rfl) eva_nil) (by omega) (by omega)) (fun j h => h) (by rw [irng_len]; omega) ?_)) ?_
    · rintro i d e
      obtain ⟨hi, rfl⟩ := irng_at e
      refine ⟨_, tg_name, evd_op (evd_op (evd_var rfl) (evd_var rfl) (op2_ixS abc_size (abc_ix hf.1 hf.2))) (evd_op (evd_var rfl) evd_int op2_I0) (op2_mulS (by omega) (by omega) (by show 1 ≤ 1000; omega))⟩
    · refine ⟨⟨m, _, rfl, ?_, names_short hf.1 hf.2 hm9⟩, n + (1 + (1 + (1 + 0))) + 7, by omega, rfl⟩
      rw [List.map_map]
      exact congrArg Da.lst (irng_map fun i hi => rfl)
  · refine std_asg (EvO.frz (evo_map (js := [8]) (f := fun d => match d with | .int k => .str (wordS f k) | _ => .non) (src_rng1 (n := m) (eva_cons (evd_var rfl) eva_nil) (by omega) (by omega)) (fun j h => h) (by rw [irng_len]; omega) ?_)) ?_
    · rintro i d e
      obtain ⟨hi, rfl⟩ := irng_at e
      refine ⟨_, tg_name, evd_op (evd_op (evd_var rfl) (evd_op (evd_op (evd_var rfl) (evd_op evd_int (evd_var rfl) (op2_I (.inl (by decide)))) op2_I0) evd_int (op2_I (by decide))) (op2_ixS abc_size (abc_ix (Int.emod_nonneg _ (by decide)) (Int.emod_lt_of_pos _ (by decide))))) (evd_op (evd_var rfl) (evd_op (evd_var rfl) evd_int (op2_I ⟨by decide, by decide⟩)) (op2_ixS abc_size (abc_ix (by omega) (by omega)))) (op2_addS (by show 1 + 1 ≤ 100000; omega))⟩
    · refine std_ret (EvO.frz (evo_map (js := [9]) (f := fun d => match d with | .str z => .str (longS stem a z) | _ => .non) (src_list (evd_var rfl)) (fun j h => h) (by rw [List.length_map, irng_len]; omega) ?_)) ?_
      · rintro i d e
        rw [List.getElem?_map] at e
        cases e2 : (irng 0 m.toNat)[i]? with
        | none => rw [e2] at e; cases e
        | some d2 =>
          rw [e2] at e
          obtain ⟨hi, rfl⟩ := irng_at e2
          cases e
          have l1 : (cutS stem none (some a)).length ≤ 6 := by rw [str_len, cp_cut1 ha.1, List.length_take]; rw [str_len] at hs; omega
          have l2 : (cutS stem (some a) none).length ≤ 6 := by rw [str_len, cp_cut2 ha.1, List.length_drop]; rw [str_len] at hs; omega
          have l3 : (wordS f (0 + (i : Int))).length = 2 := by rw [str_len, word_cp]; rfl
          have l4 : (cutS stem none (some a) ++ wordS f (0 + (i : Int))).length ≤ 8 := by rw [str_len, cp_app, List.length_append, ← str_len, ← str_len]; omega
          refine ⟨_, tg_name, evd_op (evd_op (evd_slS (evd_var rfl) ovd_none (ovd_some (evd_var rfl)) (by omega)) (evd_var rfl) (op2_addS (by omega))) (evd_slS (evd_var rfl) (ovd_some (evd_var rfl)) ovd_none (by omega)) (op2_addS (by omega))⟩
      · refine ⟨⟨m, _, rfl, ?_, names_long (f := f) (a := a) (many := m) (stem := stem) hf.1 ha.1 m1 hs hc⟩, n + (1 + (1 + (1 + 0))) + 7, by omega, rfl⟩
        rw [List.map_map, List.map_map]
        exact congrArg Da.lst (irng_map fun i hi => rfl)
end
end R
set_option maxHeartbeats 4123456
/-! PF: drop_all, the own error. -/
namespace R
open PySem L2
section
variable {K : PySem.W.Frag} {vs : List V} {H : Hp} {Q : VK} {E : XK} {δ : List En} {te ta tb : TE} {d d1 d2 : Da} {ds : List Da} {D : Po}
/-- the own error -/
structure ErC (K : PySem.W.Frag) (C : Addr) : Prop where
  o : OexC K C
  no : PySem.W.findIn K (.ref C) "found" = some none
  me : PySem.W.exmOne K (.ref C) (.ref C) = some true
abbrev BH (K : PySem.W.Frag) : Addr := He.ga K "BadHole"
def sp_BadHole_Dinit (K : PySem.W.Frag) : Sp := fun vs H Q _ => ∃ (a C : Addr) (y : V), vs = [.ref a, y] ∧ H a = some (exo a C none) ∧ OexC K C ∧ PySem.W.findIn K (.ref C) "found" = some none ∧
  ∀ dx, H dx = none → dx ≠ a → Q .non (upd (upd H dx (exd dx [(("found" : Str), y)])) a (exo a C (some dx)))
def t_BadHole_Dinit (K : PySem.W.Frag) : TS := tSeq (tDrop (tVeI K (tCons (tVar 0) (tCons (tC (.str "no such hole")) tNil)))) (tOst K "found" (tVar 0) (tVar 1))
def N_BadHole_Dinit : List Str := ["self", "found"]
theorem pure_BadHole_Dinit (h : sp_BadHole_Dinit K vs H Q E) : t_BadHole_Dinit K { nx := fun _ H' => Q .non H', rt := Q } (L2.start N_BadHole_Dinit vs) H := by
  obtain ⟨a, C, y, rfl, hx, oc, no, q⟩ := h
  exact ⟨_, rfl, a, C, [.str "no such hole"], rfl, (by decide : 1 ≤ 1000), oc, hx, _, rfl, _, rfl, a, C, rfl, oc, no, .inl ⟨hx, fun dx h1 h2 => q dx h1 h2⟩⟩
/-- raise BadHole(e) -/
def tRaiseF (K : PySem.W.Frag) (x : Str) (E : XK) (te : TE) : TS := fun _ σ H => tMkO (He.ga K x) (sp_BadHole_Dinit K) [] (tCons te tNil) σ H fun cls d H' => E cls d H'
/-- the error's way out: its dict is new -/
def Out (C : Addr) (E : XK) (y : V) (H : Hp) : Prop := ∀ d, H d = none → E (.ref C) (some d) (upd H d (.xd [(("found" : Str), y)]))
theorem raise_out {σ : L2.St} {Df : Ends} {y : V} {i : Nat} (T : ErC K (BH K)) (hs : σ[i]? = some (some y)) (h : Out (BH K) E y H) : tRaiseF K "BadHole" E (tVar i) Df σ H := by
  refine ⟨y, hs, (by decide : 1 ≤ 1000), fun a ha => ⟨a, BH K, y, rfl, upd_same, T.o, T.no, fun dx hdx ne => ⟨rfl, dx, [(("found" : Str), y)], upd_same, by rw [upd_ne ne]; exact upd_same, ?_, ?_⟩⟩⟩
  · rw [upd_ne ne] at hdx; exact hdx
  · rw [upd_ne ne] at hdx
    have e : upd (del (upd (upd (upd H a (exo a (BH K) none)) dx (exd dx [(("found" : Str), y)])) a (exo a (BH K) (some dx))) a) dx (.xd [(("found" : Str), y)]) = upd H dx (.xd [(("found" : Str), y)]) := by
      funext b
      by_cases hb : b = dx
      · rw [hb, upd_same, upd_same]
      · rw [upd_ne hb, upd_ne hb]
        by_cases hba : b = a
        · rw [hba, del_same, ha]
        · rw [del_ne hba, upd_ne hba, upd_ne hb, upd_ne hba]
    rw [e]
    exact h dx hdx
def sp_drop_allP (K : PySem.W.Frag) : Sp := PuSp K fun ds r => ∃ cs b hs, ds = [.pck cs, seqD b (hs.map .int)] ∧ PackOk cs ∧ cs ≠ [] ∧ hs.length ≤ 24 ∧ (∀ h ∈ hs, 0 ≤ h ∧ h < widthOf cs) ∧ r = partsD cs hs
def sp_drop_all (K : PySem.W.Frag) : Sp := fun vs H Q E => sp_drop_allP K vs H Q E ∨ ∃ G p y cs ds, vs = [p, y] ∧ Same G H ∧ Rep K G p (.pck cs) ∧ Rep K G y (.lst ds) ∧ 24 < ds.length ∧ ∀ G' H', Ext none G H G' H' → Out (BH K) E y H'
def t_drop_all (K : PySem.W.Frag) (E : XK) : TS := (tSeq (tDrop (tCall (sp_need_pack K) [] E0 (tCons (tVar 0) tNil)))
  (tSeq (tIfS (tNot (tB (tCall (sp_is_list K) [] E0 (tCons (tVar 1) (tCons (tC (.int 24)) tNil))))) (tRaiseF K "BadHole" E (tVar 1)) tNext)
  (tSeq (tFor (iSeq K (tVar 1)) (gName 2) (tDrop (tCall (sp_need_hole K) [] E0 (tCons (tVar 0) (tCons (tVar 2) tNil)))))
  (tRet (tCall (sp_parted K) [] E0 (tCons (tVar 0) (tCons (tVar 1) tNil)))))))
def N_drop_all : List Str := ["pack", "holes", "hole"]
theorem pure_drop_all (T : ErC K (BH K)) (h : sp_drop_all K vs H Q E) : t_drop_all K E { nx := fun _ H' => Q .non H', rt := Q } (L2.start N_drop_all vs) H := by
  rcases h with h | ⟨G, p, y, cs, ds, rfl, le, rp, ry, hl, q⟩
  · refine pu_body h (fun ds r ⟨_, _, _, e, _⟩ => by rw [e]; exact Nat.le_add_left 2 1) ?_
    rintro _ _ ⟨cs, b, hs, rfl, ok, ne, hl, hi, rfl⟩
    refine std_seq (std_drop (evd_call (eva_cons (evd_var rfl) eva_nil) ⟨cs, rfl, rfl⟩) (std_seq ?_))
    refine std_if (b := !decide (((hs.map Da.int).length : Int) ≤ 24)) (tvd_not (tvd_B (evd_call (eva_cons (evd_var rfl) (eva_cons evd_int eva_nil)) ⟨b, _, 24, rfl, rfl⟩))) (fun e => absurd e ?_) fun _ => std_next (std_seq ?_)
    · rw [decide_eq_true (by rw [List.length_map]; omega)]; decide
    · refine std_for (js := [2]) (src_seq (evd_var rfl)) (fun i δ => ∃ e, δ = [.rep (.pck cs), .rep (seqD b (hs.map .int)), e]) ⟨.any, rfl⟩ ?_ ?_
      · rintro i d δ1 e ⟨e2, rfl⟩
        rw [List.getElem?_map] at e
        cases eh : hs[i]? with
        | none => rw [eh] at e; cases e
        | some h =>
          rw [eh] at e
          cases e
          obtain ⟨h0, h1⟩ := hi h (List.mem_of_getElem? eh)
          exact ⟨_, tg_name, std_drop (evd_call (eva_cons (evd_var rfl) (eva_cons (evd_var rfl) eva_nil)) ⟨cs, h, rfl, ok, h0, h1, rfl⟩) ⟨_, rfl⟩⟩
      · rintro δ1 ⟨e2, rfl⟩
        exact std_ret (evd_call (eva_cons (evd_var rfl) (eva_cons (evd_var rfl) eva_nil)) ⟨cs, b, hs, rfl, ok, by omega, fun h hh => inRow_of ok (hi h hh).1 (hi h hh).2 ne, rfl⟩) rfl
  · have er := er_start (N := N_drop_all) (H := H) (.cons rp (.cons ry .nil)) (Nat.le_add_left 2 1)
    unfold t_drop_all
    refine pt_seq ?_
    refine (evd_call (K := K) (P := fun ds r => ∃ cs, ds = [.pck cs] ∧ r = .non) (eva_cons (evd_var (i := 0) (d := .pck cs) rfl) eva_nil) ⟨cs, rfl, rfl⟩) none H none _ G H le er _ fun v G1 H1 x1 r1 => ?_
    have t1 : Tvd K (tNot (tB (tCall (sp_is_list K) [] E0 (tCons (tVar 1) (tCons (tC (.int 24)) tNil))))) (envOf N_drop_all ([Da.pck cs, .lst ds].map .rep)) (!decide ((ds.length : Int) ≤ 24)) :=
      tvd_not (tvd_B (evd_call (eva_cons (evd_var rfl) (eva_cons evd_int eva_nil)) ⟨true, ds, 24, rfl, rfl⟩))
    rw [decide_eq_false (by omega)] at t1
    dsimp only
    refine pt_seq (pt_if (t1 none H none _ G1 H1 x1.le (er.lift x1) _ ?_))
    intro G2 H2 x2
    exact iteT (raise_out T rfl (q _ _ (x1.trans x2)))
theorem evd_drop_all {cs : List (Str × Str)} {b : Bool} {hs : List Int} (h1 : Evd K ta δ (.pck cs)) (h2 : Evd K tb δ (seqD b (hs.map .int))) (ok : PackOk cs) (ne : cs ≠ []) (hl : hs.length ≤ 24) (hi : ∀ h ∈ hs, 0 ≤ h ∧ h < widthOf cs) :
    Evd K (tCall (sp_drop_all K) [] E (tCons ta (tCons tb tNil))) δ (partsD cs hs) := fun bp He bx σ G H le er Q q =>
  h1 bp He bx σ G H le er _ fun v G1 H1 x1 r1 => h2 bp He bx σ G1 H1 x1.le (er.lift x1) _ fun w G2 H2 x2 r2 =>
    .inl ⟨G2, _, _, x2.le, .cons (r1.mono x2.gg) (.cons r2 .nil), ⟨cs, b, hs, rfl, ok, ne, hl, hi, rfl⟩, fun v G3 H3 x3 r3 => q v G3 H3 ((x1.trans x2).trans x3) r3⟩
/-- try: drop_all(..) except BadHole as e: found = e.found -/
def tTryF (K : PySem.W.Frag) (x : Str) (i j : Nat) (ta tb : TE) : TS := fun Df σ H =>
  tDrop (tCallS (sp_drop_all K) (WE (wAs K (.ref (He.ga K x)) i (fun a cls d => tAsg (tXf a cls d (He.ga K x) "found" (tVar i)) (gName j)) (fun _ _ _ _ => False) Df)) (tCons ta (tCons tb tNil))) Df σ H
theorem std_try {i j : Nat} {cs : List (Str × Str)} (T : ErC K (BH K)) (h1 : Evd K ta δ (.pck cs)) (h2 : Evd K tb δ (.lst ds)) (hl : 24 < ds.length) (hij : i ≠ j) (hi : i < δ.length) (k : D.nx ((δ.set j (.rep (.lst ds))).set i .any)) :
    Std K (tTryF K "BadHole" i j ta tb) δ D := fun bp tp Ge He bx G H σ Df x er kn kr kb kc =>
  h1 bp He bx σ G H x.le er _ fun v G1 H1 x1 r1 => h2 bp He bx σ G1 H1 x1.le (er.lift x1) _ fun w G2 H2 x2 r2 => by
    refine .inr ⟨G2, v, w, cs, ds, rfl, x2.le, r1.mono x2.gg, r2, hl, fun G3 H3 x3 d hd => ⟨true, T.me, fun _ a ha => ?_, fun z => nomatch z⟩⟩
    have x4 : Ext none G3 H3 G3 (upd H3 d (.xd [(("found" : Str), w)])) := Ext.own x3.le hd
    have x04 := (x1.trans x2).trans (x3.trans x4)
    refine ⟨.ref a, List.getElem?_set_self (by rw [er.len]; exact hi), rfl, rfl, d, _, w, rfl, upd_same, rfl, ?_⟩
    show Df.nx _ _
    have e : ((σ.set i (some (V.ref a))).set j (some w)).set i none = (σ.set j (some w)).set i none := by
      rw [List.set_comm _ _ hij, List.set_set]
    show Df.nx (((σ.set i (some (V.ref a))).set j (some w)).set i none) _
    rw [e]
    exact kn bx G3 _ _ _ (x.trans x04.none_to) x04.gg (((er.lift x04).set (r2.mono x3.gg)).setNone) k
/-! ### in, deep -/
theorem toPys_map (ds : List Da) : toPys ds = ds.map toPy := by
  induction ds with
  | nil => rfl
  | cons d ds ih => show toPy d :: toPys ds = _; rw [ih]; rfl
theorem op2_notInD (h1 : pln d = true) (h2 : plns ds = true) (l1 : dep d ≤ 64) (l2 : deps ds ≤ 63) : Op2 K (rNotInD K) d (.lst ds) (.bl (!ds.any fun z => PyData.eqv (toPy z) (toPy d))) := fun v1 v2 G H le r1 r2 Q q => by
  refine ⟨_, toPys ds, dp_of le r1 h1, dp_of le r2 (d := .lst ds) h2, shaped_of h1 l1, shaped_of (d := .lst ds) h2 (by show deps ds + 1 ≤ 64; omega), ?_⟩
  rw [toPys_map, List.any_map]
  exact q _ G H (Ext.refl le) (.bl _)
theorem op2_inD (h1 : pln d = true) (h2 : plns ds = true) (l1 : dep d ≤ 64) (l2 : deps ds ≤ 63) : Op2 K (rInD K) d (.lst ds) (.bl (ds.any fun z => PyData.eqv (toPy z) (toPy d))) := fun v1 v2 G H le r1 r2 Q q => by
  refine ⟨_, toPys ds, dp_of le r1 h1, dp_of le r2 (d := .lst ds) h2, shaped_of h1 l1, shaped_of (d := .lst ds) h2 (by show deps ds + 1 ≤ 64; omega), ?_⟩
  rw [toPys_map, List.any_map]
  exact q _ G H (Ext.refl le) (.bl _)
theorem eqv_str (x y : Str) : PyData.eqv (.str x) (.str y) = decide (x = y) := by
  show (x == y) = _
  by_cases h : x = y
  · rw [h, decide_eq_true rfl]; exact beq_self_eq_true y
  · rw [decide_eq_false h]; exact beq_eq_false_iff_ne.mpr h
theorem eqv_card (a b : Str × Str) : PyData.eqv (toPy (cardD a)) (toPy (cardD b)) = decide (a = b) := by
  show (PyData.eqv (.str a.1) (.str b.1) && (PyData.eqv (.str a.2) (.str b.2) && true)) = _
  rw [eqv_str, eqv_str, Bool.and_true]
  by_cases h1 : a.1 = b.1
  · by_cases h2 : a.2 = b.2
    · rw [decide_eq_true h1, decide_eq_true h2, decide_eq_true (Prod.ext h1 h2)]; rfl
    · rw [decide_eq_false h2, decide_eq_false (p := a = b) (fun z => h2 (by rw [z])), Bool.and_false]
  · rw [decide_eq_false h1, decide_eq_false (p := a = b) (fun z => h1 (by rw [z])), Bool.false_and]
theorem plns_all : ∀ {ds : List Da}, (∀ d ∈ ds, pln d = true) → plns ds = true
  | [], _ => rfl
  | d :: ds, h => by
    show (pln d && plns ds) = true
    rw [h d List.mem_cons_self, plns_all fun e he => h e (List.mem_cons_of_mem _ he)]; rfl
theorem shws_all : ∀ {ds : List Da}, (∀ d ∈ ds, shw d = true) → shws ds = true
  | [], _ => rfl
  | d :: ds, h => by
    show (shw d && shws ds) = true
    rw [h d List.mem_cons_self, shws_all fun e he => h e (List.mem_cons_of_mem _ he)]; rfl
theorem deps_all {n : Nat} : ∀ {ds : List Da}, (∀ d ∈ ds, dep d ≤ n) → deps ds ≤ n
  | [], _ => Nat.zero_le _
  | d :: ds, h => Nat.max_le.mpr ⟨h d List.mem_cons_self, deps_all fun e he => h e (List.mem_cons_of_mem _ he)⟩
theorem costs_all {n : Nat} : ∀ {ds : List Da}, (∀ d ∈ ds, cost d ≤ n) → costs ds ≤ ds.length * (n + 2)
  | [], _ => by show 0 ≤ _; omega
  | d :: ds, h => by
    have a := h d List.mem_cons_self
    have b := costs_all (n := n) (ds := ds) fun e he => h e (List.mem_cons_of_mem _ he)
    show cost d + 2 + costs ds ≤ (ds.length + 1) * (n + 2)
    rw [Nat.succ_mul]; omega
theorem strOk_of {z : Str} (h : ∀ c ∈ z.cps.toList, c < 0x110000) : PyData.strOk z = true := Array.all_eq_true'.mpr fun c hc => decide_eq_true (h c (Array.mem_toList_iff.mpr hc))
theorem abc_lt : ∀ c ∈ abcS.cps.toList, c < 0x110000 := by decide +kernel
theorem nameOk.str {z : Str} (h : nameOk z) : PyData.strOk z = true := strOk_of fun c hc => abc_lt c (h.2.2 c hc)
theorem rowOk.str {z : Str} (h : rowOk z) : PyData.strOk z = true := strOk_of fun c hc => by rcases h.2.2 c hc with rfl | rfl <;> decide
structure CardsOk (cs : List (Str × Str)) : Prop where
  len : cs.length ≤ 60
  ok : ∀ c ∈ cs, nameOk c.1 ∧ rowOk c.2
theorem PackOk.c {cs : List (Str × Str)} (h : PackOk cs) : CardsOk cs := ⟨h.len, h.ok⟩
theorem card_pln {c : Str × Str} (h : nameOk c.1 ∧ rowOk c.2) : pln (cardD c) = true := by
  show (PyData.strOk c.1 && (PyData.strOk c.2 && true)) = true
  rw [h.1.str, h.2.str]; rfl
theorem cards_pln {cs : List (Str × Str)} (h : CardsOk cs) : plns (cardsD cs) = true := plns_all fun d hd => by
  obtain ⟨c, hc, rfl⟩ := List.mem_map.mp hd
  exact card_pln (h.ok c hc)
theorem cards_deps (cs : List (Str × Str)) : deps (cardsD cs) ≤ 1 := deps_all fun d hd => by
  obtain ⟨c, hc, rfl⟩ := List.mem_map.mp hd
  exact Nat.le_refl 1
theorem cards_shws (cs : List (Str × Str)) : shws (cardsD cs) = true := shws_all fun d hd => by
  obtain ⟨c, hc, rfl⟩ := List.mem_map.mp hd
  rfl
theorem cards_cost {cs : List (Str × Str)} (h : CardsOk cs) : costs (cardsD cs) ≤ 60 * 1000 := by
  have a := costs_all (n := 400) (ds := cardsD cs) fun d hd => by
    obtain ⟨c, hc, rfl⟩ := List.mem_map.mp hd
    have h1 := (h.ok c hc).1.2.1
    have h2 := (h.ok c hc).2.2.1
    show (10 * c.1.length + 2) + 2 + ((10 * c.2.length + 2) + 2 + 0) + 3 ≤ 400
    omega
  rw [cardsD_len] at a
  have := h.len
  omega
end
end R
set_option maxHeartbeats 4123456
/-! PG: the law. -/
namespace R
open PySem L2
section
variable {K : PySem.W.Frag} {vs : List V} {H : Hp} {Q : VK} {E : XK} {δ : List En} {te ta tb : TE} {d d1 d2 : Da} {ds : List Da} {D : Po}
theorem pu_bodyT {P : List Da → Da → Prop} {N : List Str} {t : TS} (h : PuSp K P vs H Q E) (hN : ∀ ds r, P ds r → ds.length ≤ N.length)
    (hb : ∀ ds r, P ds r → Std K t (envOf N (ds.map .rep)) { nx := fun _ => r = .non, rt := fun d _ => d = r, top := true }) : t { nx := fun _ H' => Q .non H', rt := Q } (L2.start N vs) H := by
  obtain ⟨G, ds, r, le, rs, p, q⟩ := h
  refine hb ds r p none (fun _ => rfl) G H none G H (L2.start N vs) _ (Ext.refl le) (er_start rs (hN ds r p)) ?_ ?_ (fun _ _ _ _ _ _ _ _ z => z) (fun _ _ _ _ _ _ _ _ z => z)
  · intro bx G' H' σ' δ' x s er e
    exact q .non G' H' x (e ▸ .non)
  · intro v d bx G' H' σ' δ' x s er rr e
    exact q v G' H' x (e ▸ rr)
structure RowW (w : Nat) (z : Str) : Prop where
  len : z.length = w
  ok : ∀ c ∈ z.cps.toList, c = 111 ∨ c = 118
def signOf (cl : List Int) (h : Int) : Str := ⟨#[if h ∈ cl then 111 else 118]⟩
def rowT (cl : List Int) (w : Nat) : Str := Str.join ⟨#[]⟩ ((List.range w).map fun (i : Nat) => signOf cl (0 + (i : Int)))
theorem rowT_ok (cl : List Int) (w : Nat) : RowW w (rowT cl w) := by
  have e : (rowT cl w).cps.toList = (List.range w).map fun (i : Nat) => if (0 + (i : Int)) ∈ cl then 111 else 118 := by
    have := cp_join ((List.range w).map fun (i : Nat) => if (0 + (i : Int)) ∈ cl then 111 else 118)
    rw [List.map_map] at this
    exact this
  refine ⟨by rw [str_len, e, List.length_map, List.length_range], fun c hc => ?_⟩
  rw [e] at hc
  obtain ⟨i, _, rfl⟩ := List.mem_map.mp hc
  split
  · exact .inl rfl
  · exact .inr rfl
theorem vo_at (b : Bool) : atI ("vo" : Str).cps.toList (if b then 1 else 0) = some (if b then 111 else 118) := by cases b <;> decide +kernel
def keepO (c : Str × Str) : Da → Bool
  | .int h => decide (c.2.cps.toList[h.toNat]? = some 111)
  | _ => false
theorem keepO_falls {c : Str × Str} : ∀ {hs : List Int}, (∀ h ∈ hs, ∃ ch, c.2.cps.toList[h.toNat]? = some ch ∧ (ch = 111 ∨ ch = 118)) → (((hs.map Da.int).filter (keepO c)).map fun d => d).isEmpty = falls hs c
  | [], _ => rfl
  | h :: hs, hh => by
    obtain ⟨ch, e, hc⟩ := hh h List.mem_cons_self
    have ih := keepO_falls (hs := hs) fun h hm => hh h (List.mem_cons_of_mem _ hm)
    rw [List.map_cons, List.filter_cons]
    show (List.map _ (if decide (c.2.cps.toList[h.toNat]? = some 111) = true then _ else _)).isEmpty = ((c.2.cps.toList[h.toNat]? == some 118) && falls hs c)
    rw [e]
    rcases hc with rfl | rfl
    · rfl
    · rw [if_neg (by decide), ih]; rfl
def keepF (hs : List Int) : Da → Bool
  | .tup [.str n, .str z] => falls hs (n, z)
  | _ => false
def keepH (hs : List Int) : Da → Bool
  | .tup [.str n, .str z] => !falls hs (n, z)
  | _ => false
theorem filter_cards (f : Da → Bool) (g : Str × Str → Bool) (h : ∀ c, f (cardD c) = g c) (cs : List (Str × Str)) : ((cardsD cs).filter f).map (fun d => d) = cardsD (cs.filter g) := by
  unfold cardsD
  rw [List.map_id', List.filter_map]
  have : f ∘ cardD = g := funext h
  rw [this]
theorem not_in_cards {cs : List (Str × Str)} {f : Str × Str → Bool} {c : Str × Str} (hc : c ∈ cs) : ((cardsD (cs.filter f)).any fun z => PyData.eqv (toPy z) (toPy (cardD c))) = f c := by
  unfold cardsD
  rw [List.any_map]
  have e : ((fun z => PyData.eqv (toPy z) (toPy (cardD c))) ∘ cardD) = fun a => decide (a = c) := funext fun a => eqv_card a c
  rw [e]
  cases h : f c with
  | true => exact List.any_eq_true.mpr ⟨c, List.mem_filter.mpr ⟨hc, h⟩, decide_eq_true rfl⟩
  | false =>
    refine List.any_eq_false.mpr fun a ha z => ?_
    rw [of_decide_eq_true z] at ha
    have := (List.mem_filter.mp ha).2
    rw [h] at this
    cases this
theorem falls_take {hs : List Int} {j : Nat} {h : Int} (e : hs[j]? = some h) (cs : List (Str × Str)) : (cs.filter (falls (hs.take j))).filter (falls [h]) = cs.filter (falls (hs.take (j + 1))) := by
  rw [List.filter_filter]
  congr 1
  funext c
  unfold falls
  rw [List.take_add_one, e]
  show _ = List.all (hs.take j ++ [h]) _
  rw [List.all_append, Bool.and_comm]
theorem even_rpr {as bs : List (Str × Str)} (ha : CardsOk as) (hb : CardsOk bs) : Rpr (.lst [.lst (cardsD as), .lst (cardsD bs)]) := by
  refine ⟨?_, ?_, ?_, ?_⟩
  · show (plns (cardsD as) && (plns (cardsD bs) && true)) = true
    rw [cards_pln ha, cards_pln hb]; rfl
  · show (shws (cardsD as) && (shws (cardsD bs) && true)) = true
    rw [cards_shws, cards_shws]; rfl
  · show max (deps (cardsD as) + 1) (max (deps (cardsD bs) + 1) 0) + 1 ≤ 40
    have := cards_deps as
    have := cards_deps bs
    omega
  · show ((costs (cardsD as) + 3) + 2 + ((costs (cardsD bs) + 3) + 2 + 0)) + 3 ≤ 16777216
    have := cards_cost ha
    have := cards_cost hb
    omega
theorem CardsOk.filter {cs : List (Str × Str)} (h : PackOk cs) (f : Str × Str → Bool) : CardsOk (cs.filter f) := (h.filter f).c
theorem ints_pln (ns : List Int) : plns (ns.map Da.int) = true := plns_all fun d hd => by
  obtain ⟨c, hc, rfl⟩ := List.mem_map.mp hd
  rfl
theorem ints_deps (ns : List Int) : deps (ns.map Da.int) ≤ 0 := deps_all fun d hd => by
  obtain ⟨c, hc, rfl⟩ := List.mem_map.mp hd
  exact Nat.le_refl 0
theorem row_char {w : Nat} {z : Str} {h : Int} (r : RowW w z) (h0 : 0 ≤ h) (h1 : h < w) : ∃ ch, z.cps.toList[h.toNat]? = some ch ∧ atI z.cps.toList h = some ch ∧ (ch = 111 ∨ ch = 118) := by
  have hl : h.toNat < z.cps.toList.length := by rw [← str_len, r.len]; omega
  refine ⟨z.cps.toList[h.toNat], List.getElem?_eq_getElem hl, ?_, r.ok _ (List.getElem_mem hl)⟩
  have := atI_nat (List.getElem?_eq_getElem hl)
  rwa [Int.toNat_of_nonneg h0] at this
/-- the two forms of the holes -/
theorem evd_form {t : Int} {hs : List Int} (h1 : Evd K ta δ (.int t)) (h2 : Evd K tb δ (.lst (hs.map .int))) : Evd K (tOp (rIxL K) (tLst (tCons (tCB (rListOf K) (tCons tb tNil)) (tCons (tCB (rTupOf K) (tCons tb tNil)) tNil))) (tOp (rI (fun _ j => 0 < j) fun i j => .int (i % j)) ta (tC (.int 2)))) δ (seqD (decide (t % 2 = 0)) (hs.map .int)) := by
  have e : Evd K (tLst (tCons (tCB (rListOf K) (tCons tb tNil)) (tCons (tCB (rTupOf K) (tCons tb tNil)) tNil))) δ (.lst [.lst (hs.map .int), .tup (hs.map .int)]) :=
    EvO.frz (evo_lst (eva_cons (evo_cb (eva_cons h2 eva_nil) opno_listL).frz (eva_cons (evd_cb (eva_cons h2 eva_nil) opn_tupL) eva_nil)) (Nat.le_add_left 2 99998))
  have m : Evd K (tOp (rI (fun _ j => 0 < j) fun i j => .int (i % j)) ta (tC (.int 2))) δ (.int (t % 2)) := evd_op h1 evd_int (op2_I (by decide))
  have h0 : t % 2 = 0 ∨ t % 2 = 1 := by omega
  rcases h0 with h0 | h0
  · rw [h0] at m ⊢
    exact evd_op e m (op2_ixL (atI_nat (j := 0) rfl))
  · rw [h0] at m ⊢
    exact evd_op e m (op2_ixL (atI_nat (j := 1) rfl))
/-- one of two -/
theorem ix_two {a b x : Int} (h0 : 0 ≤ x) (h1 : x < 2) : ∃ d, Op2 K (rIxL K) (.lst [.int a, .int b]) (.int x) d ∧ (d = .int a ∨ d = .int b) := by
  have h : x = 0 ∨ x = 1 := by omega
  rcases h with rfl | rfl
  · exact ⟨_, op2_ixL (atI_nat (j := 0) rfl), .inl rfl⟩
  · exact ⟨_, op2_ixL (atI_nat (j := 1) rfl), .inr rfl⟩
theorem zeros25 : (List.replicate (25 : Int).toNat [Da.int 0]).flatten = (List.replicate 25 (0 : Int)).map Da.int := rfl
def sp_law (K : PySem.W.Frag) : Sp := PuSp K fun ds r => ∃ ns : List Int, ds = [.scr ns] ∧ ns.length ≤ 100000 ∧ r = .bl true
def t_law (K : PySem.W.Frag) (ka kb : Int) : TS := (tSeq (tFor (iRng1 (tCons (tCB rMax2 (tCons (tC (.int 2)) (tCons (tCB rMin2 (tCons (tC (.int 4)) (tCons (tCB (rLenA K) (tCons (tVar 0) tNil)) tNil))) tNil))) tNil)) (gName 1) (tSeq (tAsg (tCall (sp_law_box K) [] E0 (tCons (tCall (sp_law_cell K ka kb) [] E0 (tCons (tVar 0) (tCons (tVar 1) tNil))) tNil)) (gName 2))
  (tSeq (tAsg (tOp (rI0 fun i j => .int (i + j)) (tC (.int 8)) (tCall (sp_law_take K) [] E0 (tCons (tVar 2) (tCons (tC (.int 17)) tNil)))) (gName 3))
  (tSeq (tAsg (tLst tNil) (gName 4))
  (tSeq (tFor (iList K (tCall (sp_law_names K) [] E0 (tCons (tVar 2) (tCons (tOp (rIxL K) (tLst (tCons (tC (.int 60)) (tCons (tOp (rI0 fun i j => .int (i + j)) (tC (.int 1)) (tCall (sp_law_take K) [] E0 (tCons (tVar 2) (tCons (tC (.int 60)) tNil)))) tNil))) (tCall (sp_law_take K) [] E0 (tCons (tVar 2) (tCons (tC (.int 2)) tNil)))) tNil)))) (gName 5) (tSeq (tAsg (tLc (iRng1 (tCons (tCall (sp_law_take K) [] E0 (tCons (tVar 2) (tCons (tC (.int 3)) tNil))) tNil)) (gName 7) tYes (tCall (sp_law_take K) [] E0 (tCons (tVar 2) (tCons (tVar 3) tNil))) [7]) (gName 10))
  (tDrop (tBM K "list" rAppend (tVar 4) (tCons (tTup (tCons (tVar 5) (tCons (tBM K "str" (rJoin K) (tC (.str "")) (tCons (tLc (iRng1 (tCons (tVar 3) tNil)) (gName 16) tYes (tOp rIxS (tC (.str "vo")) (tCB rInt1 (tCons (tOp (rIn K false) (tVar 16) (tVar 10)) tNil))) [16]) tNil)) tNil))) tNil)))))
  (tSeq (tAsg (tMake (He.ga K "Pack") (sp_Pack_Dinit K) [] E0 (tCons (tVar 4) tNil)) (gName 6))
  (tSeq (tFor (iRng1 (tCons (tC (.int 4)) tNil)) (gName 7) (tSeq (tAsg (tLc (iRng1 (tCons (tOp (rIxL K) (tLst (tCons (tOp (rI0 fun i j => .int (i + j)) (tC (.int 7)) (tCall (sp_law_take K) [] E0 (tCons (tVar 2) (tCons (tC (.int 18)) tNil)))) (tCons (tC (.int 24)) tNil))) (tCall (sp_law_take K) [] E0 (tCons (tVar 2) (tCons (tC (.int 2)) tNil)))) tNil)) (gName 17) tYes (tCall (sp_law_take K) [] E0 (tCons (tVar 2) (tCons (tVar 3) tNil))) [17]) (gName 11))
  (tSeq (tAsg (tLc (iList K (tVar 4)) (gName 18) (tTest (tOp (rEqD K) (tLc (iList K (tVar 11)) (gName 16) (tTest (tOp rEq (tOp rIxS (tOp (rIxT K) (tVar 18) (tC (.int 1))) (tVar 16)) (tC (.str "o")))) (tVar 16) [16]) (tLst tNil))) (tVar 18) [18]) (gName 12))
  (tSeq (tAsg (tCall (sp_drop_all K) [] E0 (tCons (tVar 6) (tCons (tOp (rIxL K) (tLst (tCons (tCB (rListOf K) (tCons (tVar 11) tNil)) (tCons (tCB (rTupOf K) (tCons (tVar 11) tNil)) tNil))) (tOp (rI (fun _ j => 0 < j) fun i j => .int (i % j)) (tVar 7) (tC (.int 2)))) tNil))) (gName 13))
  (tSeq (tAsg (tLst (tCons (tVar 12) (tCons (tLc (iList K (tVar 4)) (gName 18) (tTest (tOp (rNotInD K) (tVar 18) (tVar 12))) (tVar 18) [18]) tNil))) (gName 14))
  (tSeq (tIfS (tNot (tB (tCall (sp_law_even K) [] E0 (tCons (tLc (iTup K (tVar 13)) (gName 19) tYes (tMeth (He.ga K "Pack") "cards" (sp_Pack_cards K) [] E0 (tVar 19) tNil) [19]) (tCons (tVar 14) tNil))))) (tRet (tC (.bl false))) tNext)
  (tSeq (tAsg (tVar 6) (gName 15))
  (tSeq (tFor (iList K (tVar 11)) (gName 16) (tAsg (tIf (tTest (tOp (rI0 fun i j => .bl (decide (j < i))) (tLenOwn K (He.ga K "Pack") (sp_Pack_Dlen K) (tVar 15)) (tC (.int 0)))) (tOp (rIxT K) (tCall (sp_drop K) [] E0 (tCons (tVar 15) (tCons (tVar 16) tNil))) (tC (.int 0))) (tVar 15)) (gName 15)))
  (tIfS (tTest (tOp (rNeD K) (tMeth (He.ga K "Pack") "cards" (sp_Pack_cards K) [] E0 (tVar 15) tNil) (tVar 12))) (tRet (tC (.bl false))) tNext)))))))))
  (tSeq (tAsg (tC .non) (gName 8))
  (tSeq (tTryF K "BadHole" 9 8 (tVar 6) (tOp rRep (tLst (tCons (tC (.int 0)) tNil)) (tC (.int 25))))
  (tIfS (tTest (tOp (rNeD K) (tVar 8) (tOp rRep (tLst (tCons (tC (.int 0)) tNil)) (tC (.int 25))))) (tRet (tC (.bl false))) tNext))))))))))
  (tRet (tC (.bl true))))
def N_law : List Str := ["script", "k", "box", "width", "cards", "name", "pack", "turn", "found", "e", "closed", "holes", "fallen", "parts", "due", "rest", "hole", "at", "card", "part"]
theorem pure_law {ka kb : Int} (T : PkC K) (Te : ErC K (BH K)) (h : sp_law K vs H Q E) : t_law K ka kb { nx := fun _ H' => Q .non H', rt := Q } (L2.start N_law vs) H := by
  refine pu_bodyT h (fun ds r ⟨_, e, _⟩ => by rw [e]; exact Nat.le_add_left 1 19) ?_
  rintro _ _ ⟨ns, rfl, hns, rfl⟩
  refine std_seq ?_
  refine std_for (js := [1]) (src_rng1 (n := if (if (ns.length : Int) < 4 then (ns.length : Int) else 4) > 2 then (if (ns.length : Int) < 4 then (ns.length : Int) else 4) else 2)
    (eva_cons (evd_cb (eva_cons evd_int (eva_cons (evd_cb (eva_cons evd_int (eva_cons (evd_cb (eva_cons (evd_var rfl) eva_nil) opn_lenC) eva_nil)) opn_min2) eva_nil)) opn_max2) eva_nil) (by split <;> split <;> omega) (by split <;> split <;> omega))
    (fun i δ => ∃ e1 e2 e3 e4 e5 e6 e7 e8 e9 e10 e11 e12 e13 e14 e15 e16 e17 e18 e19, δ = [.rep (.scr ns), e1, e2, e3, e4, e5, e6, e7, e8, e9, e10, e11, e12, e13, e14, e15, e16, e17, e18, e19])
    ⟨_, _, _, _, _, _, _, _, _, _, _, _, _, _, _, _, _, _, _, rfl⟩ ?_ ?_
  rotate_left
  · rintro δ1 ⟨e1, e2, e3, e4, e5, e6, e7, e8, e9, e10, e11, e12, e13, e14, e15, e16, e17, e18, e19, rfl⟩
    exact std_ret evd_bl rfl
  rintro k d δ1 e ⟨e1, e2, e3, e4, e5, e6, e7, e8, e9, e10, e11, e12, e13, e14, e15, e16, e17, e18, e19, rfl⟩
  obtain ⟨hk, rfl⟩ := irng_at e
  have hk4 : k < 4 := by revert hk; split <;> split <;> omega
  refine ⟨_, tg_name, ?_⟩
  refine std_seq (std_asgBox rfl (evd_call (eva_cons (evd_var rfl) (eva_cons (evd_var rfl) eva_nil)) ⟨ns, _, rfl, by omega, by omega, rfl⟩) (std_seq ?_))
  refine std_asgE (c := 0 + 1) (P := fun d => ∃ w : Nat, d = .int w ∧ 8 ≤ w ∧ w ≤ 24) (eve_op evd_int.eve (take_ev (n := 0 + 0) rfl evd_int (by decide) (by decide) (by decide)) ?_) ?_
  · rintro _ _ rfl ⟨x, rfl, x0, x1⟩
    exact ⟨_, op2_I0, (8 + x).toNat, by rw [Int.toNat_of_nonneg (by omega)], by omega, by omega⟩
  rintro _ ⟨w, rfl, w8, w24⟩
  refine std_seq (std_asgO (evo_lst eva_nil (by decide)) (std_seq ?_))
  show Std K _ [.rep (.scr ns), .rep (.int (0 + (k : Int))), .box (0 + (0 + 1)), .rep (.int w), .own [], _, _, _, _, _, _, _, _, _, _, _, _, _, _, _] _
  -- the names
  refine std_forE (js := [5]) (c := 13) (PL := fun ds => ∃ (m : Int) (zs : List Str), ds = zs.map .str ∧ NamesOk m zs ∧ 1 ≤ m ∧ m ≤ 60) ?_
    (fun ds i δ => ∃ (b : Nat) (cs : List (Str × Str)) (e5 e6 e7 e8 e9 e10 e11 e12 e13 e14 e15 e16 e17 e18 e19 : En), b ≤ 14 + 3 * i ∧ (cs.map fun c => Da.str c.1) = ds.take i ∧ (∀ c ∈ cs, RowW w c.2) ∧
      δ = [.rep (.scr ns), .rep (.int (0 + (k : Int))), .box b, .rep (.int w), .own (cardsD cs), e5, e6, e7, e8, e9, e10, e11, e12, e13, e14, e15, e16, e17, e18, e19])
    (fun ds _ => ⟨0 + (0 + 1) + 13, [], _, _, _, _, _, _, _, _, _, _, _, _, _, _, _, by omega, rfl, (fun c hc => nomatch hc), rfl⟩) ?_ ?_
  · refine src_listE (P := fun r => ∃ ds : List Da, (∃ m : Int, ds = [.int m] ∧ 1 ≤ m ∧ m ≤ 60) ∧ ∃ (m : Int) (zs : List Str), ds = [.int m] ∧ r = .lst (zs.map .str) ∧ NamesOk m zs) ?_ ?_
    · refine eve_callE (n := 0 + (0 + 1)) (k := 2) (c := fun _ => 10) rfl (PA := fun ds => ∃ m : Int, ds = [.int m] ∧ 1 ≤ m ∧ m ≤ 60) ?_ ?_
      · refine (eveA_one (eve_op (c1 := 1) (c2 := 1) (P1 := fun d => ∃ a : Int, d = .lst [.int 60, .int a] ∧ 1 ≤ a ∧ a ≤ 60) (P := fun d => ∃ m : Int, d = .int m ∧ 1 ≤ m ∧ m ≤ 60) ?_ (take_ev (n := 0 + (0 + 1) + 1) (m := 2) rfl evd_int (by decide) (by decide) (by decide)) ?_)).imp (by omega) ?_
        · refine eve_lst (PA := fun ds => ∃ (d : Da) (r : List Da), ds = d :: r ∧ d = Da.int 60 ∧ ∃ (d2 : Da) (r2 : List Da), r = d2 :: r2 ∧ (∃ a : Int, d2 = Da.int a ∧ 1 ≤ a ∧ a ≤ 60) ∧ r2 = []) ((eveA_cons evd_int.eve fun _ => eveA_cons (eve_op evd_int.eve (take_ev (n := 0 + (0 + 1) + 0 + 0) (m := 60) rfl evd_int (by decide) (by decide) (by decide)) ?_) fun _ => eveA_nil).imp (by omega) fun _ p => p) ?_
          · rintro _ _ rfl ⟨x, rfl, x0, x1⟩
            exact ⟨_, op2_I0, 1 + x, rfl, by omega, by omega⟩
          · rintro _ ⟨_, _, rfl, rfl, _, _, rfl, ⟨a, rfl, a0, a1⟩, rfl⟩
            exact ⟨Nat.le_add_left 2 99998, a, rfl, a0, a1⟩
        · rintro _ _ ⟨a, rfl, a0, a1⟩ ⟨x, rfl, x0, x1⟩
          obtain ⟨d, ho, hd⟩ := ix_two (K := K) (a := 60) (b := a) x0 x1
          refine ⟨d, ho, ?_⟩
          rcases hd with rfl | rfl
          · exact ⟨60, rfl, by decide, by decide⟩
          · exact ⟨a, rfl, a0, a1⟩
        · rintro _ ⟨d, rfl, m, rfl, m0, m1⟩
          exact ⟨m, rfl, m0, m1⟩
      · rintro _ ⟨m, rfl, m0, m1⟩
        exact ⟨by decide, ⟨m, rfl, by omega, m1⟩, by decide⟩
    · rintro _ ⟨_, ⟨m, rfl, m0, m1⟩, m', zs, e, rfl, ok⟩
      cases e
      exact ⟨_, rfl, m, zs, rfl, ok, m0, m1⟩
  · -- one card
    rintro _ ⟨m, zs, rfl, nok, m0, m1⟩ i d δ1 e ⟨b, cs, e5, e6, e7, e8, e9, e10, e11, e12, e13, e14, e15, e16, e17, e18, e19, hb, hcs, hrow, rfl⟩
    rw [List.getElem?_map] at e
    cases ez : zs[i]? with
    | none => rw [ez] at e; cases e
    | some z =>
      rw [ez] at e
      cases e
      have hi : i < 60 := by
        have := (List.getElem?_eq_some_iff.mp ez).1
        have := nok.len
        omega
      have hcl : cs.length = i := by
        have := congrArg List.length hcs
        rw [List.length_map, List.length_take, List.length_map] at this
        have := (List.getElem?_eq_some_iff.mp ez).1
        omega
      refine ⟨_, tg_name, std_seq ?_⟩
      refine std_asgE (c := 3) (P := fun d => ∃ cl : List Int, d = .lst (cl.map .int)) ((EveO.frz (eveo_lcE (c0 := 1) (c := 1) (N := 2) (js := [7]) (PL := fun ds => ∃ n : Int, ds = irng 0 n.toNat ∧ n < 3) (PT := fun _ _ r => ∃ x : Int, r = .int x ∧ True)
        (src_rng1E (take_ev (n := b) rfl evd_int (by omega) (by decide) (by decide)) fun d ⟨n, e, n0, n1⟩ => ⟨n, e, by omega, by omega, n1⟩) (fun j h => h) (fun ds ⟨n, e, hn⟩ => by rw [e, irng_len]; omega) (by decide) ?_)).imp (by decide) ?_) ?_
      · rintro _ ⟨n, rfl, hn⟩ j d e
        obtain ⟨hj, rfl⟩ := irng_at e
        refine ⟨_, tg_name, (take_ev (n := b + (1 + j * 1)) (m := (w : Int)) rfl (evd_var rfl) (by omega) (by omega) (by omega)).mono ?_⟩
        rintro _ ⟨x, rfl, _, _⟩
        exact ⟨x, rfl, trivial⟩
      · rintro _ ⟨rs, rfl, _, _, _, hP⟩
        obtain ⟨cl, rfl, _⟩ := lift_list (mk := Da.int) hP
        exact ⟨cl, rfl⟩
      rintro _ ⟨cl, rfl⟩
      show Std K _ [.rep (.scr ns), .rep (.int (0 + (k : Int))), .box (b + 3), .rep (.int w), .own (cardsD cs), .rep (.str z), _, _, _, _, .rep (.lst (cl.map .int)), _, _, _, _, _, _, _, _, _] _
      refine std_app rfl (evd_tup (eva_cons (evd_var rfl) (eva_cons (evd_join (ys := (List.range w).map fun (i : Nat) => signOf cl (0 + (i : Int))) evd_str (Evd.is (EvO.frz (evo_map (js := [16]) (f := fun d => match d with | .int h => .str (signOf cl h) | _ => .non)
        (src_rng1 (n := (w : Int)) (eva_cons (evd_var rfl) eva_nil) (by omega) (by omega)) (fun j h => h) (by rw [irng_len]; omega) ?_)) ?_) ?_) eva_nil)) (Nat.le_add_left 2 99998)) (by rw [cardsD_len]; omega) ?_
      · rintro j d e
        obtain ⟨hj, rfl⟩ := irng_at e
        refine ⟨_, tg_name, evd_op evd_str (evd_cb (eva_cons (evd_op (evd_var rfl) (evd_var rfl) op2_inI) eva_nil) opn_intB) (op2_ixS (by decide +kernel) (Eq.trans (vo_at _) ?_))⟩
        by_cases hm : (0 + (j : Int)) ∈ cl
        · rw [decide_eq_true hm, if_pos hm]; rfl
        · rw [decide_eq_false hm, if_neg hm]; rfl
      · rw [List.map_map]
        exact congrArg Da.lst (irng_map fun i hi => rfl)
      · rw [List.map_map, List.length_map, List.length_range, nil_text]
        have : ((fun x : Str => x.length) ∘ fun (i : Nat) => signOf cl (0 + (i : Int))) = fun _ => 1 := rfl
        rw [this, List.map_const', List.sum_replicate_nat, List.length_range]
        show w * 1 + w * 0 ≤ _
        omega
      · refine ⟨b + 3, cs ++ [(z, rowT cl w)], ?_, ?_, ?_, ?_, ?_, ?_, ?_, ?_, ?_, ?_, ?_, ?_, ?_, ?_, ?_, by omega, ?h1, ?h2, ?h3⟩
        case h3 =>
          rw [nil_text]
          have e : cardsD (cs ++ [(z, rowT cl w)]) = cardsD cs ++ [.tup [.str z, .str (rowT cl w)]] := by unfold cardsD; rw [List.map_append]; rfl
          rw [e]; rfl
        case h1 =>
          rw [List.map_append, hcs, List.take_add_one, List.getElem?_map, ez]; rfl
        case h2 =>
          intro c hc
          rcases List.mem_append.mp hc with hc | hc
          · exact hrow c hc
          · rw [List.mem_singleton.mp hc]; exact rowT_ok cl w
  -- the pack
  rintro _ ⟨m, zs, rfl, nok, m0, m1⟩ δ1 ⟨b, cs, e5, e6, e7, e8, e9, e10, e11, e12, e13, e14, e15, e16, e17, e18, e19, hb, hcs, hrow, rfl⟩
  rw [List.length_map, nok.len] at hb
  have hcs : (cs.map (·.1)).map Da.str = zs.map Da.str := by
    rw [List.take_of_length_le (Nat.le_refl _)] at hcs
    rw [List.map_map]; exact hcs
  have hfst : cs.map (·.1) = zs := by
    have inj : ∀ (a c : List Str), a.map Da.str = c.map Da.str → a = c := by
      intro a
      induction a with
      | nil => intro c h; cases c with | nil => rfl | cons _ _ => cases h
      | cons x a ih =>
        intro c h
        cases c with
        | nil => cases h
        | cons y c =>
          rw [List.map_cons, List.map_cons] at h
          injection h with h1 h2
          cases h1
          rw [ih c h2]
    exact inj _ _ hcs
  have hlen : cs.length = m.toNat := by
    have := congrArg List.length hfst
    rw [List.length_map, nok.len] at this
    exact this
  have ok : PackOk cs := ⟨by omega, fun c hc => ⟨nok.ok _ (by rw [← hfst]; exact List.mem_map.mpr ⟨c, hc, rfl⟩), by rw [(hrow c hc).len]; omega, by rw [(hrow c hc).len]; omega, (hrow c hc).ok⟩, by rw [hfst]; exact nok.nd, w, fun c hc => (hrow c hc).len⟩
  have ne : cs ≠ [] := fun z => by rw [z] at hlen; simp at hlen; omega
  have wid : widthOf cs = (w : Int) := widthOf_eq (fun c hc => (hrow c hc).len) ne
  refine std_frz (i := 4) rfl (std_seq (std_asg (evd_make (evd_var rfl) ok) (std_seq ?_)))
  show Std K _ [.rep (.scr ns), .rep (.int (0 + (k : Int))), .box b, .rep (.int w), .rep (.lst (cardsD cs)), _, .rep (.pck cs), _, _, _, _, _, _, _, _, _, _, _, _, _] _
  refine std_for (js := [7]) (src_rng1 (n := 4) (eva_cons evd_int eva_nil) (by decide) (by decide))
    (fun i δ => ∃ (b' : Nat) (e5 e7 e8 e9 e10 e11 e12 e13 e14 e15 e16 e17 e18 e19 : En), b' ≤ 200 + 30 * i ∧
      δ = [.rep (.scr ns), .rep (.int (0 + (k : Int))), .box b', .rep (.int w), .rep (.lst (cardsD cs)), e5, .rep (.pck cs), e7, e8, e9, e10, e11, e12, e13, e14, e15, e16, e17, e18, e19])
    ⟨b, _, _, _, _, _, _, _, _, _, _, _, _, _, _, by omega, rfl⟩ ?_ ?_
  rotate_left
  · -- the own error
    rintro δ1 ⟨b', e5, e7, e8, e9, e10, e11, e12, e13, e14, e15, e16, e17, e18, e19, hb', rfl⟩
    have z25 : EvO K (tOp rRep (tLst (tCons (tC (.int 0)) tNil)) (tC (.int 25))) [.rep (.scr ns), .rep (.int (0 + (k : Int))), .box b', .rep (.int w), .rep (.lst (cardsD cs)), e5, .rep (.pck cs), e7, .rep .non, e9, e10, e11, e12, e13, e14, e15, e16, e17, e18, e19] ((List.replicate 25 (0 : Int)).map Da.int) :=
      (evo_op (evo_lst (eva_cons evd_int eva_nil) (by decide)).frz evd_int (op2o_rep (by decide) (by decide) (by decide))).is zeros25
    have z25b : EvO K (tOp rRep (tLst (tCons (tC (.int 0)) tNil)) (tC (.int 25))) [.rep (.scr ns), .rep (.int (0 + (k : Int))), .box b', .rep (.int w), .rep (.lst (cardsD cs)), e5, .rep (.pck cs), e7, .rep (.lst ((List.replicate 25 (0 : Int)).map Da.int)), .any, e10, e11, e12, e13, e14, e15, e16, e17, e18, e19] ((List.replicate 25 (0 : Int)).map Da.int) :=
      (evo_op (evo_lst (eva_cons evd_int eva_nil) (by decide)).frz evd_int (op2o_rep (by decide) (by decide) (by decide))).is zeros25
    refine std_seq (std_asg evd_non (std_seq (std_try Te (evd_var rfl) z25.frz (by decide) (by decide) (Nat.le_add_left 10 10) ?_)))
    refine std_if (b := false) (tvd_test (evd_op (evd_var rfl) z25b.frz (op2_neSame (ints_pln _) (by show deps _ + 1 ≤ 64; have := ints_deps (List.replicate 25 0); omega)))) (fun e => nomatch e) fun _ => std_next ?_
    exact ⟨_, _, _, _, _, _, _, _, _, _, _, _, _, _, _, _, _, _, _, rfl⟩
  -- one turn
  rintro t d δ1 e ⟨b', e5, e7, e8, e9, e10, e11, e12, e13, e14, e15, e16, e17, e18, e19, hb', rfl⟩
  obtain ⟨ht, rfl⟩ := irng_at e
  have ht4 : t < 4 := ht
  refine ⟨_, tg_name, std_seq ?_⟩
  refine std_asgE (c := 26) (P := fun d => ∃ hs : List Int, d = .lst (hs.map .int) ∧ hs.length ≤ 24 ∧ ∀ h ∈ hs, 0 ≤ h ∧ h < (w : Int)) ((EveO.frz (eveo_lcE (c0 := 2) (c := 1) (N := 24) (js := [17]) (PL := fun ds => ∃ n : Int, ds = irng 0 n.toNat ∧ n ≤ 24) (PT := fun _ _ r => ∃ x : Int, r = .int x ∧ 0 ≤ x ∧ x < (w : Int))
    (src_rng1E (P := fun d => ∃ a : Int, d = .int a ∧ 7 ≤ a ∧ a ≤ 24) (PN := fun n => n ≤ 24) (eve_op (c1 := 1) (c2 := 1) (P1 := fun d => ∃ a : Int, d = .lst [.int a, .int 24] ∧ 7 ≤ a ∧ a ≤ 24) ?_ (take_ev (n := b' + 1) (m := 2) rfl evd_int (by omega) (by decide) (by decide)) ?_) fun d ⟨n, e, n0, n1⟩ => ⟨n, e, by omega, by omega, n1⟩) (fun j h => h) (fun ds ⟨n, e, hn⟩ => by rw [e, irng_len]; omega) (by decide) ?_)).imp (by decide) ?_) ?_
  · refine eve_lst (PA := fun ds => ∃ (d : Da) (r : List Da), ds = d :: r ∧ (∃ a : Int, d = Da.int a ∧ 7 ≤ a ∧ a ≤ 24) ∧ r = [Da.int 24]) ((eveA_cons (k1 := 1) (eve_op (c1 := 0) (c2 := 1) evd_int.eve (take_ev (n := b' + 0) (m := 18) rfl evd_int (by omega) (by decide) (by decide)) ?_) fun _ => (eva_cons evd_int eva_nil).eve).imp (by decide) fun _ p => p) ?_
    · rintro _ _ rfl ⟨x, rfl, x0, x1⟩
      exact ⟨_, op2_I0, 7 + x, rfl, by omega, by omega⟩
    · rintro _ ⟨_, _, rfl, ⟨a, rfl, a0, a1⟩, rfl⟩
      exact ⟨Nat.le_add_left 2 99998, a, rfl, a0, a1⟩
  · rintro _ _ ⟨a, rfl, a0, a1⟩ ⟨x, rfl, x0, x1⟩
    obtain ⟨d, ho, hd⟩ := ix_two (K := K) (a := a) (b := 24) x0 x1
    refine ⟨d, ho, ?_⟩
    rcases hd with rfl | rfl
    · exact ⟨a, rfl, a0, a1⟩
    · exact ⟨24, rfl, by decide, by decide⟩
  · rintro _ ⟨n, rfl, hn⟩ j d e
    obtain ⟨hj, rfl⟩ := irng_at e
    exact ⟨_, tg_name, take_ev (n := b' + (2 + j * 1)) (m := (w : Int)) rfl (evd_var rfl) (by omega) (by omega) (by omega)⟩
  · rintro _ ⟨rs, rfl, _, ⟨n, rfl, hn⟩, hl, hP⟩
    obtain ⟨hs, rfl, hh⟩ := lift_list (mk := Da.int) (p := fun x => 0 ≤ x ∧ x < (w : Int)) hP
    rw [List.length_map, irng_len] at hl
    exact ⟨hs, rfl, by omega, hh⟩
  rintro _ ⟨hs, rfl, hl, hh⟩
  show Std K _ [.rep (.scr ns), .rep (.int (0 + (k : Int))), .box (b' + 26), .rep (.int w), .rep (.lst (cardsD cs)), _, .rep (.pck cs), .rep (.int (0 + (t : Int))), _, _, _, .rep (.lst (hs.map .int)), _, _, _, _, _, _, _, _] _
  have hin : ∀ h ∈ hs, 0 ≤ h ∧ h < widthOf cs := fun h hm => by rw [wid]; exact hh h hm
  have okA : CardsOk (cs.filter (falls hs)) := CardsOk.filter ok _
  have okB : CardsOk (cs.filter fun c => !falls hs c) := CardsOk.filter ok _
  -- fallen
  refine std_seq (std_asg (d := .lst (cardsD (cs.filter (falls hs)))) (Evd.is (EvO.frz (evo_lc (js := [18]) (keep := keepF hs) (f := fun d => d) (src_list (evd_var rfl)) (fun j h => h) (by rw [cardsD_len]; omega) ?_)) (congrArg Da.lst (filter_cards (keepF hs) (falls hs) (fun c => rfl) cs))) ?_)
  · rintro i d e
    obtain ⟨c, ec, rfl⟩ := cards_at e
    have hc := List.mem_of_getElem? ec
    have rl : c.2.length ≤ 24 := (ok.ok c hc).2.2.1
    refine ⟨_, tg_name, Tvd.is (tvd_test (evd_op (EvO.frz (evo_lc (js := [16]) (keep := keepO c) (f := fun d => d) (src_list (evd_var rfl)) (fun j h => h) (by rw [List.length_map]; omega) ?_)) (EvO.frz (evo_lst eva_nil (by decide))) (op2_eqNil ?_ ?_))) (keepO_falls fun h hm => ?_), fun _ => evd_var rfl⟩
    · rintro j d ej
      rw [List.getElem?_map] at ej
      cases eh : hs[j]? with
      | none => rw [eh] at ej; cases ej
      | some h =>
        rw [eh] at ej
        cases ej
        obtain ⟨h0, h1⟩ := hh h (List.mem_of_getElem? eh)
        obtain ⟨ch, g1, g2, g3⟩ := row_char (hrow c hc) h0 h1
        refine ⟨_, tg_name, Tvd.is (tvd_test (evd_op (evd_op (evd_op (evd_var rfl) evd_int (op2_ixT (d := .str c.2) rfl)) (evd_var rfl) (op2_ixS (by omega) g2)) (evd_str (x := ⟨#[111]⟩)) op2_eqS)) ?_, fun _ => evd_var rfl⟩
        rw [sign_eq]
        show _ = decide (c.2.cps.toList[h.toNat]? = some 111)
        rw [g1]
        exact decide_eq_decide.mpr ⟨congrArg some, Option.some.inj⟩
    · refine plns_all fun d hd => ?_
      rw [List.map_id'] at hd
      obtain ⟨x, _, rfl⟩ := List.mem_map.mp (List.mem_filter.mp hd).1
      rfl
    · refine deps_all fun d hd => ?_
      rw [List.map_id'] at hd
      obtain ⟨x, _, rfl⟩ := List.mem_map.mp (List.mem_filter.mp hd).1
      exact Nat.zero_le _
    · obtain ⟨h0, h1⟩ := hh h hm
      obtain ⟨ch, g1, g2, g3⟩ := row_char (hrow c hc) h0 h1
      exact ⟨ch, g1, g3⟩
  -- parts
  refine std_seq (std_asg (evd_drop_all (evd_var rfl) (evd_form (evd_var rfl) (evd_var rfl)) ok ne hl hin) (std_seq ?_))
  -- due
  refine std_asg (d := .lst [.lst (cardsD (cs.filter (falls hs))), .lst (cardsD (cs.filter fun c => !falls hs c))]) (EvO.frz (evo_lst (eva_cons (evd_var rfl) (eva_cons (Evd.is (EvO.frz (evo_lc (js := [18]) (keep := keepH hs) (f := fun d => d) (src_list (evd_var rfl)) (fun j h => h) (by rw [cardsD_len]; omega) ?_)) (congrArg Da.lst (filter_cards (keepH hs) (fun c => !falls hs c) (fun c => rfl) cs))) eva_nil)) (Nat.le_add_left 2 99998))) (std_seq ?_)
  · rintro i d e
    obtain ⟨c, ec, rfl⟩ := cards_at e
    have hc := List.mem_of_getElem? ec
    refine ⟨_, tg_name, Tvd.is (tvd_test (evd_op (evd_var rfl) (evd_var rfl) (op2_notInD (card_pln (ok.ok c hc)) (cards_pln okA) (Nat.le_add_left 1 63) (Nat.le_trans (cards_deps _) (by decide))))) ?_, fun _ => evd_var rfl⟩
    rw [not_in_cards hc]; rfl
  refine std_if (b := !true) (tvd_not (tvd_B (evd_call (eva_cons (EvO.frz (evo_map (js := [19]) (f := fun d => match d with | .pck cs => .lst (cardsD cs) | _ => .non) (src_tup (ds := [.pck (cs.filter (falls hs)), .pck (cs.filter fun c => !falls hs c)]) (evd_var rfl)) (fun j h => h) (Nat.le_add_left 2 49998) ?_)) (eva_cons (evd_var rfl) eva_nil)) ⟨_, rfl, even_rpr okA okB, rfl⟩))) (fun e => nomatch e) fun _ => std_next (std_seq ?_)
  · rintro i d e
    have hd : ∃ cs', d = .pck cs' := by
      match i, e with
      | 0, e => cases e; exact ⟨_, rfl⟩
      | 1, e => cases e; exact ⟨_, rfl⟩
      | i + 2, e => simp at e
    obtain ⟨cs', rfl⟩ := hd
    exact ⟨_, tg_name, evd_meth (evd_var rfl) eva_nil (by decide) ⟨cs', rfl, rfl⟩⟩
  -- one after the other
  refine std_asg (evd_var rfl) (std_seq ?_)
  refine std_for (js := [16]) (src_list (evd_var rfl)) (fun i δ => ∃ (e16 : En), δ = [.rep (.scr ns), .rep (.int (0 + (k : Int))), .box (b' + 26), .rep (.int w), .rep (.lst (cardsD cs)), bmp1 26 e5, .rep (.pck cs), .rep (.int (0 + (t : Int))), bmp1 26 e8, bmp1 26 e9, bmp1 26 e10, .rep (.lst (hs.map .int)), .rep (.lst (cardsD (cs.filter (falls hs)))), .rep (partsD cs hs), .rep (.lst [.lst (cardsD (cs.filter (falls hs))), .lst (cardsD (cs.filter fun c => !falls hs c))]), .rep (.pck (cs.filter (falls (hs.take i)))), e16, bmp1 26 e17, bmp1 26 e18, bmp1 26 e19]) ⟨bmp1 26 e16, ?_⟩ ?_ ?_
  · have e : cs.filter (falls (hs.take 0)) = cs := List.filter_eq_self.mpr fun _ _ => rfl
    rw [e]; rfl
  · rintro j d δ1 ej ⟨e16, rfl⟩
    rw [List.getElem?_map] at ej
    cases eh : hs[j]? with
    | none => rw [eh] at ej; cases ej
    | some h =>
      rw [eh] at ej
      cases ej
      have okJ : PackOk (cs.filter (falls (hs.take j))) := ok.filter _
      obtain ⟨h0, h1⟩ := hh h (List.mem_of_getElem? eh)
      refine ⟨_, tg_name, std_asg (d := .pck (cs.filter (falls (hs.take (j + 1))))) (evd_if (b := decide ((0 : Int) < ((cs.filter (falls (hs.take j))).length : Nat))) (tvd_test (evd_op (evd_lenOwn (evd_var rfl) ⟨_, rfl, rfl⟩ (Nat.lt_of_le_of_lt okJ.len (by decide))) evd_int op2_B0)) (fun e => ?_) fun e => ?_) ⟨.rep (.int h), rfl⟩⟩
      · have e := of_decide_eq_true e
        have neJ : cs.filter (falls (hs.take j)) ≠ [] := fun z => by rw [z] at e; simp at e
        refine evd_op (evd_call (eva_cons (evd_var rfl) (eva_cons (evd_var rfl) eva_nil)) ⟨_, h, rfl, okJ, h0, ?_, neJ, rfl⟩) evd_int (op2_ixT (Eq.trans (atI_nat (j := 0) rfl) ?_))
        · rw [widthOf_eq (fun c hc => (hrow c (List.mem_filter.mp hc).1).len) neJ]; exact h1
        · rw [← falls_take eh cs]
      · have e := of_decide_eq_false e
        have nil0 : cs.filter (falls (hs.take j)) = [] := List.eq_nil_of_length_eq_zero (by omega)
        have nil1 : cs.filter (falls (hs.take (j + 1))) = [] := by rw [← falls_take eh cs, nil0]; rfl
        rw [nil1]
        rw [nil0]
        exact evd_var rfl
  · rintro δ1 ⟨e16, rfl⟩
    rw [List.length_map, List.take_length]
    refine std_if (b := false) (tvd_test (evd_op (evd_meth (evd_var rfl) eva_nil (by decide) ⟨_, rfl, rfl⟩) (evd_var rfl) (op2_neSame (cards_pln okA) (by show deps _ + 1 ≤ 64; have := cards_deps (cs.filter (falls hs)); omega)))) (fun e => nomatch e) fun _ => std_next ?_
    exact ⟨b' + 26, _, _, _, _, _, _, _, _, _, _, _, _, _, _, by omega, rfl⟩
end
end R
set_option maxHeartbeats 4123456
/-! PH: rules for the walk: CardError.__init__(self, ..), a def's promise. -/
namespace R
open PySem PySem.Spec PyProof.Rows L2
/-- what the written part says of the base class -/
structure BsC (K : PySem.W.Frag) (C : Addr) : Prop where
  sp : PySem.W.specialIn K (.ref C) "__getattribute__" = some (some (.builtin "type.__getattribute__"))
  ty : PySem.W.typeIn K (.ref C) = some (.type "type")
  rd : PySem.W.readsIn K C (.type "type") = true
  fc : PySem.W.findCls K (.ref C) (.type "type") "__init__" = some (.val (.builtin "ValueError.__init__"))
section
variable {X : Cx} {e : Expr} {es : List Expr} {ta : TA} {p1 p2 pos : Pos}
theorem pe_ceinit {pl : Sem Bool} {x : Str} {C0 : Addr} (B : BsC X.K C0) (hg : Gl X x) (hm : X.mg x = some (.ref C0)) (ha : PA X (e :: es) ta) (hdb : (x == ("__debug__" : Str)) = false := by decide)
    (hc : eval (.Call (.Attribute (.Name x p1) "__init__" p2) (e :: es) [] pos) X.env = (do
      let ov ← eval (.Name x p1) X.env
      standAt p2.atName
      let (f, first) ← holding [ov] (getMethod ov "__init__" pl)
      callWith pos f first (backTo pos (starEach (e :: es) X.env)) (backToKw pos (keywordEach [] X.env))) := by rfl)
    (he : starEach (e :: es) X.env = (false, eval e X.env) :: starEach es X.env := by rfl) (hpl : (backTo pos (starEach es X.env)).any (·.1) = false := by rfl) :
    PE X (.Call (.Attribute (.Name x p1) "__init__" p2) (e :: es) [] pos) (tVeI X.K ta) := by
  refine ⟨fun pins s σ H Q I h => ?_⟩
  refine PySem.W.methodCall_KW (ld_glob I hg hm ?_ hdb) hc
  obtain ⟨m, fr⟩ := I.fr
  refine PySem.W.method_of_cls fr I.ok.mod.kin B.sp (PySem.W.cls_val fr I.ok.mod.kin B.ty B.rd B.fc (by decide +kernel) ?_)
  show wpAny _ _ (callWith pos (Value.builtin "ValueError.__init__") [] (backTo pos (starEach (e :: es) X.env)) []) _ _ _
  refine PyProof.Rows.callWith_method1 (thn (ha.run pos pins _ σ H _ (I.tok _) h) fun us s1 ⟨vs, H1, I1, r1, a, C, ws, ev, hl, T, ea, q⟩ => ?_) he hpl
  subst ev
  cases r1 with
  | @cons _ u0 _ ur ra rw' =>
    obtain rfl : u0 = Value.ref a := ra
    have hlen : ur.length ≤ sizeLine := by
      rw [← Paired.length rw', sizeLine_eq]
      omega
    exact oinit_ok T I1 ea hlen fun s' J => ⟨.non, H1, J, rfl, q⟩
end
/-- a def's promise, with what a call wants -/
structure Cal (P : Program) (w : World) (K : PySem.W.Frag) (mg : Str → Option Value) (base : Heap) (CX : CXT) (k : Nat) (f : Addr) (ps : List Str) (sp : Sp) : Prop where
  ex : ∃ fd : FuncData, FnOk P w K mg base CX k f fd ps sp ∧ Binds K fd ps [] ∧ PySem.W.keepIn K (.ref f) = true
structure CalG (P : Program) (w : World) (K : PySem.W.Frag) (mg : Str → Option Value) (base : Heap) (CX : CXT) (k : Nat) (f : Addr) (ps : List Str) (sp : Sp) : Prop where
  ex : ∃ fd : FuncData, FnOkG P w K mg base CX k f fd ps sp ∧ Binds K fd ps [] ∧ PySem.W.keepIn K (.ref f) = true
theorem pu_len {K : PySem.W.Frag} {P : List Da → Da → Prop} {n : Nat} (hP : ∀ ds r, P ds r → ds.length = n) {vs : List V} {H : Hp} {Q : VK} {E : XK} (h : PuSp K P vs H Q E) : vs.length = n := by
  obtain ⟨G, ds, r, le, rs, p, q⟩ := h
  exact rs.len.trans (hP ds r p)
theorem bx_len {K : PySem.W.Frag} {c : List Da → Nat} {pre : List Da → Prop} {P : List Da → Da → Prop} {n : Nat} (hP : ∀ ds, pre ds → ds.length + 1 = n) {vs : List V} {H : Hp} {Q : VK} {E : XK} (h : BxSp K c pre P vs H Q E) : vs.length = n := by
  obtain ⟨G, b, us, ds, m, c0, c1, c2, rfl, le, g, hb, bv, hn, rs, hp, q⟩ := h
  rw [List.length_cons, rs.len]
  exact hP ds hp
end R
set_option maxHeartbeats 4123456
/-! PI: what the head looks at, as Bools. -/
namespace R
open PySem PySem.Spec PyProof.Rows L2
def ownB (K : PySem.W.Frag) (C : Addr) : Bool :=
  decide (PySem.W.findIn K (.ref C) "__class__" = some (some (.builtin "object.__class__")))
  && (decide (PySem.W.specialIn K (.builtin "object.__class__") "__get__" = some (some (.builtin "getset_descriptor.__get__")))
  && (decide (PySem.W.takesIn K (.builtin "object.__class__") = some true)
  && (decide (PySem.W.mroIn K C (.type "object") = some true)
  && decide (PySem.W.kitOne K (.ref C) (.ref C) = some true))))
theorem ownB_ok {K : PySem.W.Frag} {C : Addr} (c : Cls K C) (h : ownB K C = true) : Own K C := by
  obtain ⟨h1, h⟩ := He.ba h
  obtain ⟨h2, h⟩ := He.ba h
  obtain ⟨h3, h⟩ := He.ba h
  obtain ⟨h4, h5⟩ := He.ba h
  exact ⟨c, of_decide_eq_true h1, of_decide_eq_true h2, of_decide_eq_true h3, of_decide_eq_true h4, of_decide_eq_true h5⟩
/-- an own class over ValueError -/
def oexB (K : PySem.W.Frag) (C : Addr) : Bool := match K.lookup C with
  | some ⟨.type "type", _, .cls cd, sl⟩ => (match cd.mro, sl.toList with
    | .ref C' :: bm, [_, _, _, _, some (.builtin n), _] => C' == C && n == "ValueError.__new__" && !cd.hasDel && cd.hasDict && PySem.HandSPX.refsVE bm
    | _, _ => false)
  | _ => false
theorem oexB_ok {K : PySem.W.Frag} {C : Addr} (q : oexB K C = true) : ∃ nm q N bs bm sn sub ab col dd k0 k1 k2 k3 k5, K.lookup C = some (excClassObj nm q C N bs bm true sn sub ab col dd k0 k1 k2 k3 k5 "ValueError.__new__") ∧ PySem.HandSPX.refsVE bm = true := by
  unfold oexB at q
  split at q
  · rename_i dd cd sl ho
    split at q
    · rename_i C' bm k0 k1 k2 k3 n k5 hm hs
      simp only [Bool.and_eq_true, beq_iff_eq, Bool.not_eq_true'] at q
      obtain ⟨⟨⟨⟨e1, e2⟩, hdel⟩, hdc⟩, hv⟩ := q
      subst e1 e2
      obtain ⟨nm, bs, mro, ns, qn, hd, sn, sub, ab, col, del⟩ := cd
      dsimp only at hm hdel hdc
      subst hm hdel hdc
      have hsl : sl = #[k0, k1, k2, k3, some (.builtin "ValueError.__new__"), k5] := by
        obtain ⟨l⟩ := sl
        simp only at hs
        rw [hs]
      subst hsl
      exact ⟨nm, qn, ns, bs, bm, sn, sub, ab, col, dd, k0, k1, k2, k3, k5, ho, hv⟩
    · cases q
  · cases q
def erB (K : PySem.W.Frag) (C : Addr) : Bool :=
  oexB K C && (decide (PySem.W.findIn K (.ref C) "__setattr__" = some (some (.builtin "object.__setattr__")))
  && (decide (PySem.W.subIn K (.ref C) (.type "BaseException") = some true)
  && (decide (PySem.W.typeIn K (.ref C) = some (.type "type"))
  && (PySem.W.keepIn K (.ref C)
  && (decide (PySem.W.findIn K (.ref C) "found" = some none)
  && decide (PySem.W.exmOne K (.ref C) (.ref C) = some true))))))
theorem erB_ok {K : PySem.W.Frag} {C : Addr} (h : erB K C = true) : ErC K C := by
  obtain ⟨h1, h⟩ := He.ba h
  obtain ⟨h2, h⟩ := He.ba h
  obtain ⟨h3, h⟩ := He.ba h
  obtain ⟨h4, h⟩ := He.ba h
  obtain ⟨h5, h⟩ := He.ba h
  obtain ⟨h6, h7⟩ := He.ba h
  exact ⟨⟨oexB_ok h1, of_decide_eq_true h2, of_decide_eq_true h3, of_decide_eq_true h4, h5⟩, of_decide_eq_true h6, of_decide_eq_true h7⟩
def bsB (K : PySem.W.Frag) (C : Addr) : Bool :=
  decide (PySem.W.specialIn K (.ref C) "__getattribute__" = some (some (.builtin "type.__getattribute__")))
  && (decide (PySem.W.typeIn K (.ref C) = some (.type "type"))
  && (PySem.W.readsIn K C (.type "type")
  && (match PySem.W.findCls K (.ref C) (.type "type") "__init__" with
    | some (.val (.builtin n)) => n == "ValueError.__init__"
    | _ => false)))
theorem bsB_ok {K : PySem.W.Frag} {C : Addr} (h : bsB K C = true) : BsC K C := by
  obtain ⟨h1, h⟩ := He.ba h
  obtain ⟨h2, h⟩ := He.ba h
  obtain ⟨h3, h⟩ := He.ba h
  refine ⟨of_decide_eq_true h1, of_decide_eq_true h2, h3, ?_⟩
  split at h
  · rename_i n e
    rw [e, beq_iff_eq.mp h]
  · cases h
def inB (K : PySem.W.Frag) (C : Addr) : Bool := decide (PySem.W.findIn K (.ref C) "__init__" = some (some (.ref (He.ma K C "__init__")))) && decide (PySem.W.typeIn K (.ref (He.ma K C "__init__")) = some (.type "function"))
theorem inB_ok {K : PySem.W.Frag} {C : Addr} (h : inB K C = true) : PySem.W.findIn K (.ref C) "__init__" = some (some (.ref (He.ma K C "__init__"))) ∧ PySem.W.typeIn K (.ref (He.ma K C "__init__")) = some (.type "function") := by
  obtain ⟨h1, h2⟩ := He.ba h
  exact ⟨of_decide_eq_true h1, of_decide_eq_true h2⟩
/-- what the names reach in n steps, and the interpreter's statics -/
def frY (g : Addr → Option Obj) (n : Nat) : PySem.W.Frag := He.frG g (He.asD g n ++ [cStatics])
def obsY (n : Nat) (fa : List He.Fa) (fn : List He.DefD) (ex : PySem.W.Frag → Bool) (g : Addr → Option Obj) : He.AlD × Bool := (He.obsD fa fn (frY g n), ex (frY g n))
structure SaysY (fa : List He.Fa) (fn : List He.DefD) (ex : PySem.W.Frag → Bool) (K : PySem.W.Frag) : Prop where
  d : He.SaysD fa fn K
  more : ex K = true
def hookY (n : Nat) (fa : List He.Fa) (fn : List He.DefD) (ex : PySem.W.Frag → Bool) : PySem.W.Hook where
  α := He.AlD × Bool
  obs := fun s => obsY n fa fn ex s.heap.get?
  val := fun _ => (He.valD fn, true)
  says := fun _ h => ∃ K : PySem.W.Frag, K.In h ∧ SaysY fa fn ex K
  of := fun _ _ e => ⟨_, He.frG_in, ⟨congrArg (fun z : He.AlD × Bool => z.1) e, congrArg (fun z : He.AlD × Bool => z.2) e⟩⟩
  keeps := fun _ _ _ ⟨K, hK, c⟩ k => ⟨K, PySem.W.Frag.In.keeps hK k, c⟩
theorem obsY_eq {n : Nat} {fa : List He.Fa} {fn : List He.DefD} {ex : PySem.W.Frag → Bool} {g : Addr → Option Obj} {s : Shared} (h : ∀ a, g a = s.heap.get? a) : obsY n fa fn ex g = (hookY n fa fn ex).obs s := by
  have e : g = s.heap.get? := funext h
  rw [e] <;> rfl
theorem sp_law_start {K : PySem.W.Frag} {H : Hp} {a : Addr} {ns : List Int} (hl : ns.length ≤ 100000) (hS : SqL K H a (ns.map V.int)) : PuSp K (fun ds r => ∃ ns : List Int, ds = [.scr ns] ∧ ns.length ≤ 100000 ∧ r = .bl true) [.ref a] H (fun v _ => v = .bl true) (fun _ _ _ => False) :=
  ⟨H, [.scr ns], .bl true, Same.refl H, .cons (.scr hS) .nil, ⟨ns, rfl, hl, rfl⟩, fun v G' H' x r => r.blI⟩
end R
set_option maxHeartbeats 4123456
/-! the walk, def by def -/
namespace W47
open PySem PySem.Spec PyProof.Rows L2 R
def top (i : Nat) : Stmt := PySem.Challenge.pw_needlecards_k47_many_needles_at_once.main.body.getD i (.Pass ⟨0, 0, 0, 0⟩)

abbrev s_is_integer : Stmt := top 13
abbrev s_is_name : Stmt := top 14
abbrev s_is_list : Stmt := top 15
abbrev s_is_row : Stmt := top 20
abbrev s_is_open : Stmt := top 21
abbrev s_is_card : Stmt := top 26
abbrev s_Pack_Dinit : Stmt := inClass (top 28) 0
abbrev s_Pack_Dlen : Stmt := inClass (top 28) 1
abbrev s_Pack_cards : Stmt := inClass (top 28) 5
abbrev s_Pack_width : Stmt := inClass (top 28) 6
abbrev s_need_pack : Stmt := top 29
abbrev s_need_hole : Stmt := top 30
abbrev s_parted : Stmt := top 31
abbrev s_drop : Stmt := top 32
abbrev s_BadHole_Dinit : Stmt := inClass (top 4) 0
abbrev s_drop_all : Stmt := top 33
abbrev s_law_cell : Stmt := top 35
abbrev s_law_box : Stmt := top 36
abbrev s_law_take : Stmt := top 37
abbrev s_law_even : Stmt := top 38
abbrev s_law_names : Stmt := top 39
abbrev s_law : Stmt := top 40
structure Txt (K : PySem.W.Frag) (mg : Str → Option Value) : Prop where
  g_BadHole : mg "BadHole" = some (.ref (He.ga K "BadHole"))
  g_CardError : mg "CardError" = some (.ref (He.ga K "CardError"))
  g_Pack : mg "Pack" = some (.ref (He.ga K "Pack"))
  g__law_box : mg "_law_box" = some (.ref (He.ga K "_law_box"))
  g__law_cell : mg "_law_cell" = some (.ref (He.ga K "_law_cell"))
  g__law_even : mg "_law_even" = some (.ref (He.ga K "_law_even"))
  g__law_names : mg "_law_names" = some (.ref (He.ga K "_law_names"))
  g__law_take : mg "_law_take" = some (.ref (He.ga K "_law_take"))
  g_drop : mg "drop" = some (.ref (He.ga K "drop"))
  g_drop_all : mg "drop_all" = some (.ref (He.ga K "drop_all"))
  g_is_card : mg "is_card" = some (.ref (He.ga K "is_card"))
  g_is_integer : mg "is_integer" = some (.ref (He.ga K "is_integer"))
  g_is_list : mg "is_list" = some (.ref (He.ga K "is_list"))
  g_is_name : mg "is_name" = some (.ref (He.ga K "is_name"))
  g_is_open : mg "is_open" = some (.ref (He.ga K "is_open"))
  g_is_row : mg "is_row" = some (.ref (He.ga K "is_row"))
  g_law : mg "law" = some (.ref (He.ga K "law"))
  g_need_hole : mg "need_hole" = some (.ref (He.ga K "need_hole"))
  g_need_pack : mg "need_pack" = some (.ref (He.ga K "need_pack"))
  g_parted : mg "parted" = some (.ref (He.ga K "parted"))
  n_all : mg "all" = none
  n_bool : mg "bool" = none
  n_int : mg "int" = none
  n_isinstance : mg "isinstance" = none
  n_len : mg "len" = none
  n_list : mg "list" = none
  n_max : mg "max" = none
  n_min : mg "min" = none
  n_range : mg "range" = none
  n_repr : mg "repr" = none
  n_str : mg "str" = none
  n_tuple : mg "tuple" = none
  c_CLOSED : ∃ t, mg "CLOSED" = some (.str "o" t)
  c_LETTERS : ∃ t, mg "LETTERS" = some (.str "abcdefghijklmnopqrstuvwxyz" t)
  c_LONGEST_NAME : ∃ t, mg "LONGEST_NAME" = some (.int 8 t)
  c_MOST_CARDS : ∃ t, mg "MOST_CARDS" = some (.int 60 t)
  c_MOST_NEEDLES : ∃ t, mg "MOST_NEEDLES" = some (.int 24 t)
  c_OPEN : ∃ t, mg "OPEN" = some (.str "v" t)
  c_WIDEST : ∃ t, mg "WIDEST" = some (.int 24 t)
  f_is_integer : ∃ fd, FunD K "is_integer" "is_integer" (defArgs s_is_integer) (defBody s_is_integer) (defScope s_is_integer) [] [] (He.ga K "is_integer") fd
  f_is_name : ∃ fd, FunD K "is_name" "is_name" (defArgs s_is_name) (defBody s_is_name) (defScope s_is_name) [] [] (He.ga K "is_name") fd
  f_is_list : ∃ fd, FunD K "is_list" "is_list" (defArgs s_is_list) (defBody s_is_list) (defScope s_is_list) [] [] (He.ga K "is_list") fd
  f_is_row : ∃ fd, FunD K "is_row" "is_row" (defArgs s_is_row) (defBody s_is_row) (defScope s_is_row) [] [] (He.ga K "is_row") fd
  f_is_open : ∃ fd, FunD K "is_open" "is_open" (defArgs s_is_open) (defBody s_is_open) (defScope s_is_open) [] [] (He.ga K "is_open") fd
  f_is_card : ∃ fd, FunD K "is_card" "is_card" (defArgs s_is_card) (defBody s_is_card) (defScope s_is_card) [] [] (He.ga K "is_card") fd
  f_Pack_Dinit : ∃ fd, FunD K "__init__" "Pack.__init__" (defArgs s_Pack_Dinit) (defBody s_Pack_Dinit) (defScope s_Pack_Dinit) [] [] (He.ma K (He.ga K "Pack") "__init__") fd
  f_Pack_Dlen : ∃ fd, FunD K "__len__" "Pack.__len__" (defArgs s_Pack_Dlen) (defBody s_Pack_Dlen) (defScope s_Pack_Dlen) [] [] (He.ma K (He.ga K "Pack") "__len__") fd
  m_Pack_Dlen : Meth K (He.ga K "Pack") "__len__" (He.ma K (He.ga K "Pack") "__len__")
  f_Pack_cards : ∃ fd, FunD K "cards" "Pack.cards" (defArgs s_Pack_cards) (defBody s_Pack_cards) (defScope s_Pack_cards) [] [] (He.ma K (He.ga K "Pack") "cards") fd
  m_Pack_cards : Meth K (He.ga K "Pack") "cards" (He.ma K (He.ga K "Pack") "cards")
  f_Pack_width : ∃ fd, FunD K "width" "Pack.width" (defArgs s_Pack_width) (defBody s_Pack_width) (defScope s_Pack_width) [] [] (He.ma K (He.ga K "Pack") "width") fd
  m_Pack_width : Meth K (He.ga K "Pack") "width" (He.ma K (He.ga K "Pack") "width")
  f_need_pack : ∃ fd, FunD K "need_pack" "need_pack" (defArgs s_need_pack) (defBody s_need_pack) (defScope s_need_pack) [] [] (He.ga K "need_pack") fd
  f_need_hole : ∃ fd, FunD K "need_hole" "need_hole" (defArgs s_need_hole) (defBody s_need_hole) (defScope s_need_hole) [] [] (He.ga K "need_hole") fd
  f_parted : ∃ fd, FunD K "parted" "parted" (defArgs s_parted) (defBody s_parted) (defScope s_parted) [] [] (He.ga K "parted") fd
  f_drop : ∃ fd, FunD K "drop" "drop" (defArgs s_drop) (defBody s_drop) (defScope s_drop) [] [] (He.ga K "drop") fd
  f_BadHole_Dinit : ∃ fd, FunD K "__init__" "BadHole.__init__" (defArgs s_BadHole_Dinit) (defBody s_BadHole_Dinit) (defScope s_BadHole_Dinit) [] [] (He.ma K (He.ga K "BadHole") "__init__") fd
  f_drop_all : ∃ fd, FunD K "drop_all" "drop_all" (defArgs s_drop_all) (defBody s_drop_all) (defScope s_drop_all) [] [] (He.ga K "drop_all") fd
  f_law_cell : ∃ fd, FunD K "_law_cell" "_law_cell" (defArgs s_law_cell) (defBody s_law_cell) (defScope s_law_cell) [] [] (He.ga K "_law_cell") fd
  f_law_box : ∃ fd, FunD K "_law_box" "_law_box" (defArgs s_law_box) (defBody s_law_box) (defScope s_law_box) [] [] (He.ga K "_law_box") fd
  f_law_take : ∃ fd, FunD K "_law_take" "_law_take" (defArgs s_law_take) (defBody s_law_take) (defScope s_law_take) [] [] (He.ga K "_law_take") fd
  f_law_even : ∃ fd, FunD K "_law_even" "_law_even" (defArgs s_law_even) (defBody s_law_even) (defScope s_law_even) [] [] (He.ga K "_law_even") fd
  f_law_names : ∃ fd, FunD K "_law_names" "_law_names" (defArgs s_law_names) (defBody s_law_names) (defScope s_law_names) [] [] (He.ga K "_law_names") fd
  f_law : ∃ fd, FunD K "law" "law" (defArgs s_law) (defBody s_law) (defScope s_law) [] [] (He.ga K "law") fd
  pk : PkC K
  mk_Pack : Mk K (He.ga K "Pack") (He.ma K (He.ga K "Pack") "__init__")
  er : ErC K (He.ga K "BadHole")
  xf : XfC K (He.ga K "BadHole")
  bs : BsC K (He.ga K "CardError")
  i_BadHole : PySem.W.findIn K (.ref (He.ga K "BadHole")) "__init__" = some (some (.ref (He.ma K (He.ga K "BadHole") "__init__")))
  t_BadHole : PySem.W.typeIn K (.ref (He.ma K (He.ga K "BadHole") "__init__")) = some (.type "function")
theorem Txt.cl_Pack {K : PySem.W.Frag} {mg : Str → Option Value} (T : Txt K mg) : Cls K (He.ga K "Pack") := T.pk.cl
section
variable {P : Program} {w : World} {K : PySem.W.Frag} {mg : Str → Option Value} {base : Heap}
-- names of is_integer: N_is_integer
theorem sc_is_integer : FnScope N_is_integer ["value", "low", "high"] (defScope s_is_integer) := ⟨rfl, rfl, rfl, by decide +kernel, rfl, by decide +kernel, by decide +kernel⟩
theorem ok_is_integer (T : Txt K mg) : Cal P w K mg base CX0 1 (He.ga K "is_integer") ["value", "low", "high"] (sp_is_integer K) := by
  obtain ⟨fd, F⟩ := T.f_is_integer
  refine ⟨fd, ?_, F.bindsN fun _ _ _ _ _ _ us hl => match us, hl with | [_, _, _], _ => rfl, F.kp⟩
  refine F.ok sc_is_integer (fun vs H Q E h => pu_len (fun ds r ⟨_, _, _, e, _⟩ => by rw [e]; rfl) h) (fun cdv A outer s H vs Q E hr h => ⟨(t_is_integer K), PSs.nox ?_, pure_is_integer h⟩)
  exact (pss_one (ps_ret (pe_and (pe_callB call_isi (by rfl) T.n_isinstance bt_isinstance (pa_cons (pv 0) (pa_cons (pe_bltn (v := .ty "int") (by rfl) T.n_int bt_int rfl) pa_nil))) (pe_and (pe_not (pe_callB call_isi (by rfl) T.n_isinstance bt_isinstance (pa_cons (pv 0) (pa_cons (pe_bltn (v := .ty "bool") (by rfl) T.n_bool bt_bool rfl) pa_nil)))) (pe_one (pe_chain op_le op_le (pv 1) (pv 0) (pv 2)))))))
-- names of is_name: N_is_name
theorem sc_is_name : FnScope N_is_name ["value"] (defScope s_is_name) := ⟨rfl, rfl, rfl, by decide +kernel, rfl, by decide +kernel, by decide +kernel⟩
theorem ok_is_name (T : Txt K mg) : Cal P w K mg base CX0 1 (He.ga K "is_name") ["value"] (sp_is_name K) := by
  obtain ⟨fd, F⟩ := T.f_is_name
  obtain ⟨_, c_LETTERS⟩ := T.c_LETTERS
  obtain ⟨_, c_LONGEST_NAME⟩ := T.c_LONGEST_NAME
  refine ⟨fd, ?_, F.bindsN fun _ _ _ _ _ _ us hl => match us, hl with | [_], _ => rfl, F.kp⟩
  refine F.ok sc_is_name (fun vs H Q E h => pu_len (fun ds r ⟨_, e, _⟩ => by rw [e]; rfl) h) (fun cdv A outer s H vs Q E hr h => ⟨(t_is_name K), PSs.nox ?_, pure_is_name h⟩)
  exact (pss_cons (ps_if (PW.pt (pw_or (pt_not (pt_val (pe_callB call_isi (by rfl) T.n_isinstance bt_isinstance (pa_cons (pv 0) (pa_cons (pe_bltn (v := .ty "str") (by rfl) T.n_str bt_str rfl) pa_nil))))) (pw_or1 (pt_not (pt_chain op_le op_le pe_int (pe_callB call_lenA (by rfl) T.n_len bt_len (pa_cons (pv 0) pa_nil)) (pe_glob rfl c_LONGEST_NAME ⟨_, rfl⟩)))))) (pss_one (ps_ret pe_bl)) pss_nil)
  (pss_one (ps_ret (pe_callB (cr_all rfl) (by rfl) T.n_all bt_all (pa_cons (pe_lc (own := [("sign", 1)]) (g := (gName 1)) (tt := tYes) rfl sc_is_name.nd (pi_str (pv 0)) (blkOk_by (N := N_is_name) (own := [("sign", 1)]) (by first | decide +kernel | kernel_rfl)) (fun _ _ _ _ _ => (pg_name (i := 1) sc_is_name.nd rfl (by first | exact Or.inl rfl | exact Or.inr rfl))) (fun _ _ _ _ _ => pts_nil) (fun _ _ _ _ _ => (pe_cmpR op_inS (pv 1) (pe_glob rfl c_LETTERS ⟨_, rfl⟩) (by rfl)))) pa_nil)))))
-- names of is_list: N_is_list
theorem sc_is_list : FnScope N_is_list ["value", "most"] (defScope s_is_list) := ⟨rfl, rfl, rfl, by decide +kernel, rfl, by decide +kernel, by decide +kernel⟩
theorem ok_is_list (T : Txt K mg) : Cal P w K mg base CX0 1 (He.ga K "is_list") ["value", "most"] (sp_is_list K) := by
  obtain ⟨fd, F⟩ := T.f_is_list
  refine ⟨fd, ?_, F.bindsN fun _ _ _ _ _ _ us hl => match us, hl with | [_, _], _ => rfl, F.kp⟩
  refine F.ok sc_is_list (fun vs H Q E h => pu_len (fun ds r ⟨_, _, _, e, _⟩ => by rw [e]; rfl) h) (fun cdv A outer s H vs Q E hr h => ⟨(t_is_list K), PSs.nox ?_, pure_is_list h⟩)
  exact (pss_one (ps_ret (pe_and (pe_callB call_isiT (by rfl) T.n_isinstance bt_isinstance (pa_cons (pv 0) (pa_cons (pe_tup (pa_cons (pe_bltn (v := .ty "list") (by rfl) T.n_list bt_list rfl) (pa_cons (pe_bltn (v := .ty "tuple") (by rfl) T.n_tuple bt_tuple rfl) pa_nil))) pa_nil))) (pe_one (pe_cmpR op_le (pe_callB call_lenA (by rfl) T.n_len bt_len (pa_cons (pv 0) pa_nil)) (pv 1) (nomark _))))))
-- names of is_row: N_is_row
theorem sc_is_row : FnScope N_is_row ["value"] (defScope s_is_row) := ⟨rfl, rfl, rfl, by decide +kernel, rfl, by decide +kernel, by decide +kernel⟩
theorem ok_is_row (T : Txt K mg) : Cal P w K mg base CX0 1 (He.ga K "is_row") ["value"] (sp_is_row K) := by
  obtain ⟨fd, F⟩ := T.f_is_row
  obtain ⟨_, c_CLOSED⟩ := T.c_CLOSED
  obtain ⟨_, c_OPEN⟩ := T.c_OPEN
  obtain ⟨_, c_WIDEST⟩ := T.c_WIDEST
  refine ⟨fd, ?_, F.bindsN fun _ _ _ _ _ _ us hl => match us, hl with | [_], _ => rfl, F.kp⟩
  refine F.ok sc_is_row (fun vs H Q E h => pu_len (fun ds r ⟨_, e, _⟩ => by rw [e]; rfl) h) (fun cdv A outer s H vs Q E hr h => ⟨(t_is_row K), PSs.nox ?_, pure_is_row h⟩)
  exact (pss_cons (ps_if (PW.pt (pw_or (pt_not (pt_val (pe_callB call_isi (by rfl) T.n_isinstance bt_isinstance (pa_cons (pv 0) (pa_cons (pe_bltn (v := .ty "str") (by rfl) T.n_str bt_str rfl) pa_nil))))) (pw_or1 (pt_not (pt_chain op_le op_le pe_int (pe_callB call_lenA (by rfl) T.n_len bt_len (pa_cons (pv 0) pa_nil)) (pe_glob rfl c_WIDEST ⟨_, rfl⟩)))))) (pss_one (ps_ret pe_bl)) pss_nil)
  (pss_one (ps_ret (pe_callB (cr_all rfl) (by rfl) T.n_all bt_all (pa_cons (pe_lc (own := [("sign", 1)]) (g := (gName 1)) (tt := tYes) rfl sc_is_row.nd (pi_str (pv 0)) (blkOk_by (N := N_is_row) (own := [("sign", 1)]) (by first | decide +kernel | kernel_rfl)) (fun _ _ _ _ _ => (pg_name (i := 1) sc_is_row.nd rfl (by first | exact Or.inl rfl | exact Or.inr rfl))) (fun _ _ _ _ _ => pts_nil) (fun _ _ _ _ _ => (pe_cmpR op_in_seq (pv 1) (pe_tup (pa_cons (pe_glob rfl c_CLOSED ⟨_, rfl⟩) (pa_cons (pe_glob rfl c_OPEN ⟨_, rfl⟩) pa_nil))) (by rfl)))) pa_nil)))))
-- names of is_open: N_is_open
theorem sc_is_open : FnScope N_is_open ["row", "hole"] (defScope s_is_open) := ⟨rfl, rfl, rfl, by decide +kernel, rfl, by decide +kernel, by decide +kernel⟩
theorem ok_is_open (T : Txt K mg) : Cal P w K mg base CX0 1 (He.ga K "is_open") ["row", "hole"] (sp_is_open K) := by
  obtain ⟨fd, F⟩ := T.f_is_open
  obtain ⟨_, c_OPEN⟩ := T.c_OPEN
  refine ⟨fd, ?_, F.bindsN fun _ _ _ _ _ _ us hl => match us, hl with | [_, _], _ => rfl, F.kp⟩
  refine F.ok sc_is_open (fun vs H Q E h => pu_len (fun ds r ⟨_, _, _, e, _⟩ => by rw [e]; rfl) h) (fun cdv A outer s H vs Q E hr h => ⟨(t_is_open K), PSs.nox ?_, pure_is_open h⟩)
  exact (pss_one (ps_ret (pe_cmpR op_eq (pe_ix ix_str (pv 0) (pv 1) (fun _ _ => rfl)) (pe_glob rfl c_OPEN ⟨_, rfl⟩) (nomark _))))
-- names of is_card: N_is_card
theorem sc_is_card : FnScope N_is_card ["value"] (defScope s_is_card) := ⟨rfl, rfl, rfl, by decide +kernel, rfl, by decide +kernel, by decide +kernel⟩
theorem ok_is_card (T : Txt K mg) : Cal P w K mg base CX0 2 (He.ga K "is_card") ["value"] (sp_is_card K) := by
  obtain ⟨fd, F⟩ := T.f_is_card
  obtain ⟨fd_is_row, G_is_row, b_is_row, k_is_row⟩ := (ok_is_row (P := P) (w := w) (base := base) T).ex
  obtain ⟨fd_is_name, G_is_name, b_is_name, k_is_name⟩ := (ok_is_name (P := P) (w := w) (base := base) T).ex
  refine ⟨fd, ?_, F.bindsN fun _ _ _ _ _ _ us hl => match us, hl with | [_], _ => rfl, F.kp⟩
  refine F.ok sc_is_card (fun vs H Q E h => pu_len (fun ds r ⟨_, _, e, _⟩ => by rw [e]; rfl) h) (fun cdv A outer s H vs Q E hr h => ⟨(t_is_card K), PSs.nox ?_, pure_is_card h⟩)
  exact (pss_one (ps_ret (pe_and (pe_callB call_isi (by rfl) T.n_isinstance bt_isinstance (pa_cons (pv 0) (pa_cons (pe_bltn (v := .ty "tuple") (by rfl) T.n_tuple bt_tuple rfl) pa_nil))) (pe_and (pe_cmpR op_eq (pe_callB call_lenA (by rfl) T.n_len bt_len (pa_cons (pv 0) pa_nil)) pe_int (nomark _)) (pe_and (pe_call G_is_name (hr.mono (by decide)) (by rfl) T.g_is_name k_is_name b_is_name .nil pass0 (pa_cons (pe_ix ix_tup (pv 0) pe_int (fun _ _ => rfl)) pa_nil)) (pe_one (pe_call G_is_row (hr.mono (by decide)) (by rfl) T.g_is_row k_is_row b_is_row .nil pass0 (pa_cons (pe_ix ix_tup (pv 0) pe_int (fun _ _ => rfl)) pa_nil))))))))
-- names of Pack.__init__: N_Pack_Dinit
theorem sc_Pack_Dinit : FnScope N_Pack_Dinit ["self", "cards"] (defScope s_Pack_Dinit) := ⟨rfl, rfl, rfl, by decide +kernel, rfl, by decide +kernel, by decide +kernel⟩
theorem ok_Pack_Dinit (T : Txt K mg) : Cal P w K mg base CX0 3 (He.ma K (He.ga K "Pack") "__init__") ["self", "cards"] (sp_Pack_Dinit K) := by
  obtain ⟨fd, F⟩ := T.f_Pack_Dinit
  obtain ⟨fd_is_list, G_is_list, b_is_list, k_is_list⟩ := (ok_is_list (P := P) (w := w) (base := base) T).ex
  obtain ⟨fd_is_card, G_is_card, b_is_card, k_is_card⟩ := (ok_is_card (P := P) (w := w) (base := base) T).ex
  obtain ⟨_, c_MOST_CARDS⟩ := T.c_MOST_CARDS
  refine ⟨fd, ?_, F.bindsN fun _ _ _ _ _ _ us hl => match us, hl with | [_, _], _ => rfl, F.kp⟩
  refine F.ok sc_Pack_Dinit (fun vs H Q E h => by obtain ⟨_, _, _, _, _, rfl, _⟩ := h; rfl) (fun cdv A outer s H vs Q E hr h => ⟨(tFrzE (t_Pack_Dinit K)), PSs.nox ?_, pure_Pack_Dinit T.pk h⟩)
  have hu : (A.deeper (envOfC "Pack.__init__" (defScope s_Pack_Dinit) s.heap.objs.size (He.ma K (He.ga K "Pack") "__init__") cdv)).units + 1 < cLine := by have := hr.un; omega
  exact (pss_frzE (pss_cons (ps_if (pt_not (pt_val (pe_call G_is_list (hr.mono (by decide)) (by rfl) T.g_is_list k_is_list b_is_list .nil pass0 (pa_cons (pv 1) (pa_cons (pe_glob rfl c_MOST_CARDS ⟨_, rfl⟩) pa_nil))))) (pss_one ps_never) pss_nil)
  (pss_cons (ps_fld (pv 0) pe_dnewK rfl)
  (pss_one (ps_for PassesOwn.never rfl (pi_list (pv 1)) (pg_name (i := 2) sc_Pack_Dinit.nd rfl (by first | exact Or.inl rfl | exact Or.inr rfl)) (pss_cons (ps_if (pt_not (pt_val (pe_call G_is_card (hr.mono (by decide)) (by rfl) T.g_is_card k_is_card b_is_card .nil pass0 (pa_cons (pv 2) pa_nil)))) (pss_one ps_never) pss_nil)
  (pss_cons (ps_asg (pv 2) (pg_tup rfl (pgs_cons (pg_name (i := 3) sc_Pack_Dinit.nd rfl (by first | exact Or.inl rfl | exact Or.inr rfl)) (pgs_cons (pg_name (i := 4) sc_Pack_Dinit.nd rfl (by first | exact Or.inl rfl | exact Or.inr rfl)) pgs_nil))))
  (pss_cons (ps_if (pt_cmp (pc_din hu (pv 3) (pe_fld (pv 0) rfl))) (pss_one ps_never) pss_nil)
  (pss_cons (ps_if (pt_cmpR op_ne (pe_callB call_lenA (by rfl) T.n_len bt_len (pa_cons (pv 4) pa_nil)) (pe_callB call_lenA (by rfl) T.n_len bt_len (pa_cons (pe_ix ix_tup (pe_ix ix_list (pv 1) pe_int (fun _ _ => rfl)) pe_int (fun _ _ => rfl)) pa_nil)) (nomark _)) (pss_one ps_never) pss_nil)
  (pss_one (ps_dput hu (pe_fld (pv 0) rfl) (pv 3) (pv 4) rfl)))))))))))
-- names of Pack.__len__: N_Pack_Dlen
theorem sc_Pack_Dlen : FnScope N_Pack_Dlen ["self"] (defScope s_Pack_Dlen) := ⟨rfl, rfl, rfl, by decide +kernel, rfl, by decide +kernel, by decide +kernel⟩
theorem ok_Pack_Dlen (T : Txt K mg) : Cal P w K mg base CX0 1 (He.ma K (He.ga K "Pack") "__len__") ["self"] (sp_Pack_Dlen K) := by
  obtain ⟨fd, F⟩ := T.f_Pack_Dlen
  refine ⟨fd, ?_, F.bindsN fun _ _ _ _ _ _ us hl => match us, hl with | [_], _ => rfl, F.kp⟩
  refine F.ok sc_Pack_Dlen (fun vs H Q E h => pu_len (fun ds r ⟨_, e, _⟩ => by rw [e]; rfl) h) (fun cdv A outer s H vs Q E hr h => ⟨(t_Pack_Dlen K), PSs.nox ?_, pure_Pack_Dlen T.pk h⟩)
  exact (pss_one (ps_ret (pe_callB call_lenF (by rfl) T.n_len bt_len (pa_cons (pe_fld (pv 0) rfl) pa_nil))))
-- names of Pack.cards: N_Pack_cards
theorem sc_Pack_cards : FnScope N_Pack_cards ["self"] (defScope s_Pack_cards) := ⟨rfl, rfl, rfl, by decide +kernel, rfl, by decide +kernel, by decide +kernel⟩
theorem ok_Pack_cards (T : Txt K mg) : Cal P w K mg base CX0 1 (He.ma K (He.ga K "Pack") "cards") ["self"] (sp_Pack_cards K) := by
  obtain ⟨fd, F⟩ := T.f_Pack_cards
  refine ⟨fd, ?_, F.bindsN fun _ _ _ _ _ _ us hl => match us, hl with | [_], _ => rfl, F.kp⟩
  refine F.ok sc_Pack_cards (fun vs H Q E h => pu_len (fun ds r ⟨_, e, _⟩ => by rw [e]; rfl) h) (fun cdv A outer s H vs Q E hr h => ⟨(t_Pack_cards K), PSs.nox ?_, pure_Pack_cards T.pk h⟩)
  exact (pss_one (ps_ret (pe_itemsF rfl (pe_fld (pv 0) rfl) (by rfl) T.n_list bt_list)))
-- names of Pack.width: N_Pack_width
theorem sc_Pack_width : FnScope N_Pack_width ["self"] (defScope s_Pack_width) := ⟨rfl, rfl, rfl, by decide +kernel, rfl, by decide +kernel, by decide +kernel⟩
theorem ok_Pack_width (T : Txt K mg) : Cal P w K mg base CX0 1 (He.ma K (He.ga K "Pack") "width") ["self"] (sp_Pack_width K) := by
  obtain ⟨fd, F⟩ := T.f_Pack_width
  refine ⟨fd, ?_, F.bindsN fun _ _ _ _ _ _ us hl => match us, hl with | [_], _ => rfl, F.kp⟩
  refine F.ok sc_Pack_width (fun vs H Q E h => pu_len (fun ds r ⟨_, e, _⟩ => by rw [e]; rfl) h) (fun cdv A outer s H vs Q E hr h => ⟨(t_Pack_width K), PSs.nox ?_, pure_Pack_width T.pk h⟩)
  exact (pss_one (ps_ret (pe_callBK (cr_maxD rfl ⟨_, hr⟩) (by rfl) T.n_max bt_max (pa_cons (pe_lc (own := [("row", 1)]) (g := (gName 1)) (tt := tYes) rfl sc_Pack_width.nd (pi_values (pe_fld (pv 0) rfl)) (blkOk_by (N := N_Pack_width) (own := [("row", 1)]) (by first | decide +kernel | kernel_rfl)) (fun _ _ _ _ _ => (pg_name (i := 1) sc_Pack_width.nd rfl (by first | exact Or.inl rfl | exact Or.inr rfl))) (fun _ _ _ _ _ => pts_nil) (fun _ _ _ _ _ => (pe_callB call_lenA (by rfl) T.n_len bt_len (pa_cons (pv 1) pa_nil)))) pa_nil) (pk_cons pe_int pk_nil))))
-- names of need_pack: N_need_pack
theorem sc_need_pack : FnScope N_need_pack ["pack"] (defScope s_need_pack) := ⟨rfl, rfl, rfl, by decide +kernel, rfl, by decide +kernel, by decide +kernel⟩
theorem ok_need_pack (T : Txt K mg) : Cal P w K mg base CX0 1 (He.ga K "need_pack") ["pack"] (sp_need_pack K) := by
  obtain ⟨fd, F⟩ := T.f_need_pack
  refine ⟨fd, ?_, F.bindsN fun _ _ _ _ _ _ us hl => match us, hl with | [_], _ => rfl, F.kp⟩
  refine F.ok sc_need_pack (fun vs H Q E h => pu_len (fun ds r ⟨_, e, _⟩ => by rw [e]; rfl) h) (fun cdv A outer s H vs Q E hr h => ⟨(t_need_pack K), PSs.nox ?_, pure_need_pack T.pk h⟩)
  exact (pss_one (ps_if (pt_not (pt_val (pe_callB call_isi (by rfl) T.n_isinstance bt_isinstance (pa_cons (pv 0) (pa_cons (pe_glob rfl T.g_Pack rfl) pa_nil))))) (pss_one ps_never) pss_nil))
-- names of need_hole: N_need_hole
theorem sc_need_hole : FnScope N_need_hole ["pack", "hole"] (defScope s_need_hole) := ⟨rfl, rfl, rfl, by decide +kernel, rfl, by decide +kernel, by decide +kernel⟩
theorem ok_need_hole (T : Txt K mg) : Cal P w K mg base CX0 2 (He.ga K "need_hole") ["pack", "hole"] (sp_need_hole K) := by
  obtain ⟨fd, F⟩ := T.f_need_hole
  obtain ⟨fd_Pack_width, G_Pack_width, b_Pack_width, k_Pack_width⟩ := (ok_Pack_width (P := P) (w := w) (base := base) T).ex
  obtain ⟨fd_is_integer, G_is_integer, b_is_integer, k_is_integer⟩ := (ok_is_integer (P := P) (w := w) (base := base) T).ex
  refine ⟨fd, ?_, F.bindsN fun _ _ _ _ _ _ us hl => match us, hl with | [_, _], _ => rfl, F.kp⟩
  refine F.ok sc_need_hole (fun vs H Q E h => pu_len (fun ds r ⟨_, _, e, _⟩ => by rw [e]; rfl) h) (fun cdv A outer s H vs Q E hr h => ⟨(t_need_hole K), PSs.nox ?_, pure_need_hole h⟩)
  exact (pss_one (ps_if (pt_not (pt_val (pe_call G_is_integer (hr.mono (by decide)) (by rfl) T.g_is_integer k_is_integer b_is_integer .nil pass0 (pa_cons (pv 1) (pa_cons pe_int (pa_cons (pe_op op_sub (pe_meth0 (pv 0) T.cl_Pack T.m_Pack_width G_Pack_width (hr.mono (by decide)) b_Pack_width .nil pass0) pe_int) pa_nil)))))) (pss_one ps_never) pss_nil))
-- names of parted: N_parted
theorem sc_parted : FnScope N_parted ["pack", "holes"] (defScope s_parted) := ⟨rfl, rfl, rfl, by decide +kernel, rfl, by decide +kernel, by decide +kernel⟩
theorem ok_parted (T : Txt K mg) : Cal P w K mg base CX0 5 (He.ga K "parted") ["pack", "holes"] (sp_parted K) := by
  obtain ⟨fd, F⟩ := T.f_parted
  obtain ⟨fd_Pack_cards, G_Pack_cards, b_Pack_cards, k_Pack_cards⟩ := (ok_Pack_cards (P := P) (w := w) (base := base) T).ex
  obtain ⟨fd_is_open, G_is_open, b_is_open, k_is_open⟩ := (ok_is_open (P := P) (w := w) (base := base) T).ex
  obtain ⟨fd_Pack_Dinit, G_Pack_Dinit, b_Pack_Dinit, k_Pack_Dinit⟩ := (ok_Pack_Dinit (P := P) (w := w) (base := base) T).ex
  refine ⟨fd, ?_, F.bindsN fun _ _ _ _ _ _ us hl => match us, hl with | [_, _], _ => rfl, F.kp⟩
  refine F.ok sc_parted (fun vs H Q E h => pu_len (fun ds r ⟨_, _, _, e, _⟩ => by rw [e]; rfl) h) (fun cdv A outer s H vs Q E hr h => ⟨(t_parted K), PSs.nox ?_, pure_parted h⟩)
  exact (pss_cons (ps_set (i := 2) sc_parted.nd rfl (by first | exact Or.inl rfl | exact Or.inr rfl) (pe_lst pa_nil))
  (pss_cons (ps_set (i := 3) sc_parted.nd rfl (by first | exact Or.inl rfl | exact Or.inr rfl) (pe_lst pa_nil))
  (pss_cons (ps_for PassesOwn.never rfl (pi_list (pe_meth0 (pv 0) T.cl_Pack T.m_Pack_cards G_Pack_cards (hr.mono (by decide)) b_Pack_cards .nil pass0)) (pg_name (i := 4) sc_parted.nd rfl (by first | exact Or.inl rfl | exact Or.inr rfl)) (pss_one (ps_if (pt_val (pe_callB (cr_all rfl) (by rfl) T.n_all bt_all (pa_cons (pe_lc (own := [("hole", 5)]) (g := (gName 5)) (tt := tYes) rfl sc_parted.nd (pi_seq (pv 1)) (blkOk_by (N := N_parted) (own := [("hole", 5)]) (by first | decide +kernel | kernel_rfl)) (fun _ _ _ _ _ => (pg_name (i := 5) sc_parted.nd rfl (by first | exact Or.inl rfl | exact Or.inr rfl))) (fun _ _ _ _ _ => pts_nil) (fun _ _ _ _ _ => (pe_call G_is_open (hr.mono (by decide)) (by rfl) T.g_is_open k_is_open b_is_open .nil pass0 (pa_cons (pe_ix ix_tup (pv 4) pe_int (fun _ _ => rfl)) (pa_cons (pv 5) pa_nil))))) pa_nil))) (pss_one (ps_expr (pe_bm PySem.F.plainAttrs_list PySem.F.slot_list_append PySem.F.type_list_append mt_append (pv 2) (pa_cons (pv 4) pa_nil)))) (pss_one (ps_expr (pe_bm PySem.F.plainAttrs_list PySem.F.slot_list_append PySem.F.type_list_append mt_append (pv 3) (pa_cons (pv 4) pa_nil)))))))
  (pss_one (ps_ret (pe_tup (pa_cons (pe_make T.mk_Pack G_Pack_Dinit (hr.mono (by decide)) (by rfl) T.g_Pack b_Pack_Dinit .nil pass0 (pa_cons (pv 2) pa_nil)) (pa_cons (pe_make T.mk_Pack G_Pack_Dinit (hr.mono (by decide)) (by rfl) T.g_Pack b_Pack_Dinit .nil pass0 (pa_cons (pv 3) pa_nil)) pa_nil))))))))
-- names of drop: N_drop
theorem sc_drop : FnScope N_drop ["pack", "hole"] (defScope s_drop) := ⟨rfl, rfl, rfl, by decide +kernel, rfl, by decide +kernel, by decide +kernel⟩
theorem ok_drop (T : Txt K mg) : Cal P w K mg base CX0 6 (He.ga K "drop") ["pack", "hole"] (sp_drop K) := by
  obtain ⟨fd, F⟩ := T.f_drop
  obtain ⟨fd_need_pack, G_need_pack, b_need_pack, k_need_pack⟩ := (ok_need_pack (P := P) (w := w) (base := base) T).ex
  obtain ⟨fd_need_hole, G_need_hole, b_need_hole, k_need_hole⟩ := (ok_need_hole (P := P) (w := w) (base := base) T).ex
  obtain ⟨fd_parted, G_parted, b_parted, k_parted⟩ := (ok_parted (P := P) (w := w) (base := base) T).ex
  refine ⟨fd, ?_, F.bindsN fun _ _ _ _ _ _ us hl => match us, hl with | [_, _], _ => rfl, F.kp⟩
  refine F.ok sc_drop (fun vs H Q E h => pu_len (fun ds r ⟨_, _, e, _⟩ => by rw [e]; rfl) h) (fun cdv A outer s H vs Q E hr h => ⟨(t_drop K), PSs.nox ?_, pure_drop h⟩)
  exact (pss_cons (ps_expr (pe_call G_need_pack (hr.mono (by decide)) (by rfl) T.g_need_pack k_need_pack b_need_pack .nil pass0 (pa_cons (pv 0) pa_nil)))
  (pss_cons (ps_expr (pe_call G_need_hole (hr.mono (by decide)) (by rfl) T.g_need_hole k_need_hole b_need_hole .nil pass0 (pa_cons (pv 0) (pa_cons (pv 1) pa_nil))))
  (pss_one (ps_ret (pe_call G_parted (hr.mono (by decide)) (by rfl) T.g_parted k_parted b_parted .nil pass0 (pa_cons (pv 0) (pa_cons (pe_lst (pa_cons (pv 1) pa_nil)) pa_nil)))))))
-- names of BadHole.__init__: N_BadHole_Dinit
theorem sc_BadHole_Dinit : FnScope N_BadHole_Dinit ["self", "found"] (defScope s_BadHole_Dinit) := ⟨rfl, rfl, rfl, by decide +kernel, rfl, by decide +kernel, by decide +kernel⟩
theorem ok_BadHole_Dinit (T : Txt K mg) : Cal P w K mg base CX0 1 (He.ma K (He.ga K "BadHole") "__init__") ["self", "found"] (sp_BadHole_Dinit K) := by
  obtain ⟨fd, F⟩ := T.f_BadHole_Dinit
  refine ⟨fd, ?_, F.bindsN fun _ _ _ _ _ _ us hl => match us, hl with | [_, _], _ => rfl, F.kp⟩
  refine F.ok sc_BadHole_Dinit (fun vs H Q E h => by obtain ⟨_, _, _, rfl, _⟩ := h; rfl) (fun cdv A outer s H vs Q E hr h => ⟨(t_BadHole_Dinit K), PSs.nox ?_, pure_BadHole_Dinit h⟩)
  exact (pss_cons (ps_expr (pe_ceinit T.bs (by rfl) T.g_CardError (pa_cons (pv 0) (pa_cons pe_str pa_nil)))) (pss_one (ps_ost (pv 0) (pv 1))))
-- names of drop_all: N_drop_all
theorem sc_drop_all : FnScope N_drop_all ["pack", "holes"] (defScope s_drop_all) := ⟨rfl, rfl, rfl, by decide +kernel, rfl, by decide +kernel, by decide +kernel⟩
theorem ok_drop_all (T : Txt K mg) : Cal P w K mg base (L2.CX P w) 6 (He.ga K "drop_all") ["pack", "holes"] (sp_drop_all K) := by
  obtain ⟨fd, F⟩ := T.f_drop_all
  obtain ⟨fd_need_hole, G_need_hole, b_need_hole, k_need_hole⟩ := (ok_need_hole (P := P) (w := w) (base := base) T).ex
  obtain ⟨fd_is_list, G_is_list, b_is_list, k_is_list⟩ := (ok_is_list (P := P) (w := w) (base := base) T).ex
  obtain ⟨fd_BadHole_Dinit, G_BadHole_Dinit, b_BadHole_Dinit, k_BadHole_Dinit⟩ := (ok_BadHole_Dinit (P := P) (w := w) (base := base) T).ex
  obtain ⟨fd_need_pack, G_need_pack, b_need_pack, k_need_pack⟩ := (ok_need_pack (P := P) (w := w) (base := base) T).ex
  obtain ⟨fd_parted, G_parted, b_parted, k_parted⟩ := (ok_parted (P := P) (w := w) (base := base) T).ex
  obtain ⟨_, c_MOST_NEEDLES⟩ := T.c_MOST_NEEDLES
  refine ⟨fd, ?_, F.bindsN fun _ _ _ _ _ _ us hl => match us, hl with | [_, _], _ => rfl, F.kp⟩
  refine F.ok sc_drop_all (fun vs H Q E h => by rcases h with h | ⟨_, _, _, _, _, rfl, _⟩; exact pu_len (fun ds r ⟨_, _, _, e, _⟩ => by rw [e]; rfl) h; rfl) (fun cdv A outer s H vs Q E hr h => ⟨(t_drop_all K E), ?_, pure_drop_all T.er h⟩)
  exact (pss_cons (ps_expr (pe_call G_need_pack (hr.mono (by decide)) (by rfl) T.g_need_pack k_need_pack b_need_pack .nil pass0 (pa_cons (pv 0) pa_nil)))
  (pss_cons (ps_if (pt_not (pt_val (pe_call G_is_list (hr.mono (by decide)) (by rfl) T.g_is_list k_is_list b_is_list .nil pass0 (pa_cons (pv 1) (pa_cons (pe_glob rfl c_MOST_NEEDLES ⟨_, rfl⟩) pa_nil))))) (pss_one (ps_raise rfl (takes_of rfl rfl rfl rfl) (pmk_oex T.er.o T.i_BadHole T.t_BadHole G_BadHole_Dinit (hr.mono (by decide)) b_BadHole_Dinit .nil pass0 (by rfl) T.g_BadHole (pa_cons (pv 1) pa_nil)))) pss_nil)
  (pss_cons (ps_for (passes_of rfl) rfl (pi_seq (pv 1)) (pg_name (i := 2) sc_drop_all.nd rfl (by first | exact Or.inl rfl | exact Or.inr rfl)) (pss_one (ps_expr (pe_call G_need_hole (hr.mono (by decide)) (by rfl) T.g_need_hole k_need_hole b_need_hole .nil pass0 (pa_cons (pv 0) (pa_cons (pv 2) pa_nil))))))
  (pss_one (ps_ret (pe_call G_parted (hr.mono (by decide)) (by rfl) T.g_parted k_parted b_parted .nil pass0 (pa_cons (pv 0) (pa_cons (pv 1) pa_nil))))))))
-- names of _law_cell: N_law_cell
theorem sc_law_cell : FnScope N_law_cell ["script", "k"] (defScope s_law_cell) := ⟨rfl, rfl, rfl, by decide +kernel, rfl, by decide +kernel, by decide +kernel⟩
theorem ok_law_cell (T : Txt K mg) : Cal P w K mg base CX0 1 (He.ga K "_law_cell") ["script", "k"] (sp_law_cell K 141651031 113) := by
  obtain ⟨fd, F⟩ := T.f_law_cell
  refine ⟨fd, ?_, F.bindsN fun _ _ _ _ _ _ us hl => match us, hl with | [_, _], _ => rfl, F.kp⟩
  refine F.ok sc_law_cell (fun vs H Q E h => pu_len (fun ds r ⟨_, _, e, _⟩ => by rw [e]; rfl) h) (fun cdv A outer s H vs Q E hr h => ⟨(t_law_cell K 141651031 113), PSs.nox ?_, pure_law_cell h⟩)
  exact (pss_cons (ps_if (pt_cmpR op_lt (pv 1) (pe_callB call_lenA (by rfl) T.n_len bt_len (pa_cons (pv 0) pa_nil)) (nomark _)) (pss_one (ps_ret (pe_ix ix_list (pv 0) (pv 1) (fun _ _ => rfl)))) pss_nil)
  (pss_one (ps_ret (pe_op op_add (pe_op op_mul pe_int (pv 1)) pe_int))))
-- names of _law_box: N_law_box
theorem sc_law_box : FnScope N_law_box ["cell"] (defScope s_law_box) := ⟨rfl, rfl, rfl, by decide +kernel, rfl, by decide +kernel, by decide +kernel⟩
theorem ok_law_box (T : Txt K mg) : Cal P w K mg base CX0 1 (He.ga K "_law_box") ["cell"] (sp_law_box K) := by
  obtain ⟨fd, F⟩ := T.f_law_box
  refine ⟨fd, ?_, F.bindsN fun _ _ _ _ _ _ us hl => match us, hl with | [_], _ => rfl, F.kp⟩
  refine F.ok sc_law_box (fun vs H Q E h => by obtain ⟨_, _, rfl, _⟩ := h; rfl) (fun cdv A outer s H vs Q E hr h => ⟨(t_law_box K), PSs.nox ?_, pure_law_box h⟩)
  exact (pss_one (ps_ret (pe_lst (pa_cons (pe_callB (cr_max2 rfl) (by rfl) T.n_max bt_max (pa_cons pe_int (pa_cons (pe_op op_sub (pv 0) (pe_op op_pow pe_int pe_int)) pa_nil))) (pa_cons (pe_op op_mod (pv 0) pe_int) (pa_cons pe_int pa_nil))))))
-- names of _law_take: N_law_take
theorem sc_law_take : FnScope N_law_take ["box", "many"] (defScope s_law_take) := ⟨rfl, rfl, rfl, by decide +kernel, rfl, by decide +kernel, by decide +kernel⟩
theorem ok_law_take (T : Txt K mg) : Cal P w K mg base CX0 1 (He.ga K "_law_take") ["box", "many"] (sp_law_take K) := by
  obtain ⟨fd, F⟩ := T.f_law_take
  refine ⟨fd, ?_, F.bindsN fun _ _ _ _ _ _ us hl => match us, hl with | [_, _], _ => rfl, F.kp⟩
  refine F.ok sc_law_take (fun vs H Q E h => bx_len (fun ds ⟨_, e, _⟩ => by rw [e]; rfl) h) (fun cdv A outer s H vs Q E hr h => ⟨(t_law_take K 113), PSs.nox ?_, pure_law_take (by decide) h⟩)
  exact (pss_cons (ps_if (pt_cmpR op_gt (pe_ix ix_list (pv 0) pe_int (fun _ _ => rfl)) pe_int (nomark _)) (pss_cons (ps_set (i := 4) sc_law_take.nd rfl (by first | exact Or.inl rfl | exact Or.inr rfl) (pe_op op_mod (pe_ix ix_list (pv 0) pe_int (fun _ _ => rfl)) (pv 1)))
  (pss_cons (ps_asg (pe_op op_fdiv (pe_ix ix_list (pv 0) pe_int (fun _ _ => rfl)) (pv 1)) (pg_sub (pv 0) pe_int set_list))
  (pss_one (ps_ret (pv 4))))) pss_nil)
  (pss_cons (ps_asg (pe_op op_add (pe_ix ix_list (pv 0) pe_int (fun _ _ => rfl)) pe_int) (pg_sub (pv 0) pe_int set_list))
  (pss_cons (ps_set (i := 2) sc_law_take.nd rfl (by first | exact Or.inl rfl | exact Or.inr rfl) (pe_op op_mod (pe_op op_pow (pe_op op_add (pe_op op_add (pe_ix ix_list (pv 0) pe_int (fun _ _ => rfl)) (pe_op op_mul pe_int (pe_ix ix_list (pv 0) pe_int (fun _ _ => rfl)))) pe_int) pe_int) pe_int))
  (pss_cons (ps_set (i := 3) sc_law_take.nd rfl (by first | exact Or.inl rfl | exact Or.inr rfl) (pe_op op_mod (pe_op op_pow (pe_op op_add (pe_op op_add (pe_op op_fdiv (pv 2) pe_int) (pe_op op_mul (pe_op op_mul pe_int (pe_ix ix_list (pv 0) pe_int (fun _ _ => rfl))) (pe_ix ix_list (pv 0) pe_int (fun _ _ => rfl)))) pe_int) pe_int) pe_int))
  (pss_one (ps_ret (pe_op op_mod (pe_op op_add (pe_op op_fdiv (pv 2) pe_int) (pe_op op_mul pe_int (pe_op op_fdiv (pv 3) pe_int))) (pv 1))))))))
-- names of _law_even: N_law_even
theorem sc_law_even : FnScope N_law_even ["told", "due"] (defScope s_law_even) := ⟨rfl, rfl, rfl, by decide +kernel, rfl, by decide +kernel, by decide +kernel⟩
theorem ok_law_even (T : Txt K mg) : CalG P w K mg base CX0 1 (He.ga K "_law_even") ["told", "due"] (sp_law_even K) := by
  obtain ⟨fd, F⟩ := T.f_law_even
  refine ⟨fd, ?_, F.bindsN fun _ _ _ _ _ _ us hl => match us, hl with | [_, _], _ => rfl, F.kp⟩
  refine R.FunD.okG F sc_law_even (fun vs H Q E h => pu_len (fun ds r ⟨_, e, _⟩ => by rw [e]; rfl) h) (fun cdv A outer s H vs Q E hgd hr h => ⟨(t_law_even K), PSs.nox ?_, pure_law_even h⟩)
  exact (pss_one (ps_ret (pe_and (pe_cmpR (op_eqD hr.units) (pv 0) (pv 1) (nomark _)) (pe_one (pe_cmpR op_eq (pe_callB (call_reprD hgd hr.units) (by rfl) T.n_repr bt_repr (pa_cons (pv 0) pa_nil)) (pe_callB (call_reprD hgd hr.units) (by rfl) T.n_repr bt_repr (pa_cons (pv 1) pa_nil)) (nomark _))))))
-- names of _law_names: N_law_names
theorem sc_law_names : FnScope N_law_names ["box", "many"] (defScope s_law_names) := ⟨rfl, rfl, rfl, by decide +kernel, rfl, by decide +kernel, by decide +kernel⟩
theorem ok_law_names (T : Txt K mg) : Cal P w K mg base CX0 2 (He.ga K "_law_names") ["box", "many"] (sp_law_names K) := by
  obtain ⟨fd, F⟩ := T.f_law_names
  obtain ⟨fd_law_take, G_law_take, b_law_take, k_law_take⟩ := (ok_law_take (P := P) (w := w) (base := base) T).ex
  refine ⟨fd, ?_, F.bindsN fun _ _ _ _ _ _ us hl => match us, hl with | [_, _], _ => rfl, F.kp⟩
  refine F.ok sc_law_names (fun vs H Q E h => bx_len (fun ds ⟨_, e, _⟩ => by rw [e]; rfl) h) (fun cdv A outer s H vs Q E hr h => ⟨(t_law_names K), PSs.nox ?_, pure_law_names h⟩)
  exact (pss_cons (ps_set (i := 2) sc_law_names.nd rfl (by first | exact Or.inl rfl | exact Or.inr rfl) pe_str)
  (pss_cons (ps_asg (pe_tup (pa_cons (pe_call G_law_take (hr.mono (by decide)) (by rfl) T.g__law_take k_law_take b_law_take .nil pass0 (pa_cons (pv 0) (pa_cons pe_int pa_nil))) (pa_cons (pe_call G_law_take (hr.mono (by decide)) (by rfl) T.g__law_take k_law_take b_law_take .nil pass0 (pa_cons (pv 0) (pa_cons pe_int pa_nil))) (pa_cons (pe_call G_law_take (hr.mono (by decide)) (by rfl) T.g__law_take k_law_take b_law_take .nil pass0 (pa_cons (pv 0) (pa_cons pe_int pa_nil))) pa_nil)))) (pg_tup rfl (pgs_cons (pg_name (i := 5) sc_law_names.nd rfl (by first | exact Or.inl rfl | exact Or.inr rfl)) (pgs_cons (pg_name (i := 6) sc_law_names.nd rfl (by first | exact Or.inl rfl | exact Or.inr rfl)) (pgs_cons (pg_name (i := 7) sc_law_names.nd rfl (by first | exact Or.inl rfl | exact Or.inr rfl)) pgs_nil)))))
  (pss_cons (ps_set (i := 3) sc_law_names.nd rfl (by first | exact Or.inl rfl | exact Or.inr rfl) (pe_bm PySem.F.plainAttrs_str PySem.F.slot_str_join PySem.F.type_str_join mt_joinR pe_str (pa_cons (pe_lc (own := [("k", 8)]) (g := (gName 8)) (tt := tYes) rfl sc_law_names.nd (pi_range1 (by rfl) T.n_range (pa_cons (pe_call G_law_take (hr.mono (by decide)) (by rfl) T.g__law_take k_law_take b_law_take .nil pass0 (pa_cons (pv 0) (pa_cons pe_int pa_nil))) pa_nil)) (blkOk_by (N := N_law_names) (own := [("k", 8)]) (by first | decide +kernel | kernel_rfl)) (fun _ _ _ _ _ => (pg_name (i := 8) sc_law_names.nd rfl (by first | exact Or.inl rfl | exact Or.inr rfl))) (fun _ _ _ _ _ => pts_nil) (fun _ _ _ _ _ => (pe_ix ix_str (pv 2) (pe_call G_law_take (hr.mono (by decide)) (by rfl) T.g__law_take k_law_take b_law_take .nil pass0 (pa_cons (pv 0) (pa_cons pe_int pa_nil))) (fun _ _ => rfl)))) pa_nil)))
  (pss_cons (ps_if (PW.pt (pw_and (pt_cmpR op_eq (pv 7) pe_int (nomark _)) (pw_and1 (pt_cmpR op_lt (pv 1) pe_int (nomark _))))) (pss_one (ps_ret (pe_lc (own := [("k", 8)]) (g := (gName 8)) (tt := tYes) rfl sc_law_names.nd (pi_range1 (by rfl) T.n_range (pa_cons (pv 1) pa_nil)) (blkOk_by (N := N_law_names) (own := [("k", 8)]) (by first | decide +kernel | kernel_rfl)) (fun _ _ _ _ _ => (pg_name (i := 8) sc_law_names.nd rfl (by first | exact Or.inl rfl | exact Or.inr rfl))) (fun _ _ _ _ _ => pts_nil) (fun _ _ _ _ _ => (pe_op op_mulS (pe_ix ix_str (pv 2) (pv 5) (fun _ _ => rfl)) (pe_op op_add (pv 8) pe_int)))))) pss_nil)
  (pss_cons (ps_setLc (i := 4) (own := [("k", 8)]) (g := (gName 8)) (tt := tYes) rfl sc_law_names.nd rfl rfl (sw_true rfl rfl rfl (by first | rfl | decide +kernel | kernel_rfl)) (pi_range1 (by rfl) T.n_range (pa_cons (pv 1) pa_nil)) (blkOk_by (N := N_law_names) (own := [("k", 8)]) (by first | decide +kernel | kernel_rfl)) (fun _ _ _ _ _ => (pg_name (i := 8) sc_law_names.nd rfl (by first | exact Or.inl rfl | exact Or.inr rfl))) (fun _ _ _ _ _ => pts_nil) (fun _ _ _ _ _ => (pe_op op_addS (pe_ix ix_str (pv 2) (pe_op op_mod (pe_op op_add (pv 5) (pe_op op_mul pe_int (pv 8))) pe_int) (fun _ _ => rfl)) (pe_ix ix_str (pv 2) (pe_op op_fdiv (pv 8) pe_int) (fun _ _ => rfl)))))
  (pss_one (ps_ret (pe_lc (own := [("word", 9)]) (g := (gName 9)) (tt := tYes) rfl sc_law_names.nd (pi_list (pv 4)) (blkOk_by (N := N_law_names) (own := [("word", 9)]) (by first | decide +kernel | kernel_rfl)) (fun _ _ _ _ _ => (pg_name (i := 9) sc_law_names.nd rfl (by first | exact Or.inl rfl | exact Or.inr rfl))) (fun _ _ _ _ _ => pts_nil) (fun _ _ _ _ _ => (pe_op op_addS (pe_op op_addS (pe_slice sl_str (pv 3) po_none (po_some (pv 6))) (pv 9)) (pe_slice sl_str (pv 3) (po_some (pv 6)) po_none)))))))))))
-- names of law: N_law
theorem sc_law : FnScope N_law ["script"] (defScope s_law) := ⟨rfl, rfl, rfl, by decide +kernel, rfl, by decide +kernel, by decide +kernel⟩
theorem ok_law (T : Txt K mg) {fd : FuncData} (F : FunD K "law" "law" (defArgs s_law) (defBody s_law) (defScope s_law) [] [] (He.ga K "law") fd) : FnOkG P w K mg base CX0 7 (He.ga K "law") fd ["script"] (sp_law K) := by
  obtain ⟨fd_drop, G_drop, b_drop, k_drop⟩ := (ok_drop (P := P) (w := w) (base := base) T).ex
  obtain ⟨fd_Pack_Dlen, G_Pack_Dlen, b_Pack_Dlen, k_Pack_Dlen⟩ := (ok_Pack_Dlen (P := P) (w := w) (base := base) T).ex
  obtain ⟨fd_drop_all, G_drop_all, b_drop_all, k_drop_all⟩ := (ok_drop_all (P := P) (w := w) (base := base) T).ex
  obtain ⟨fd_law_even, G_law_even, b_law_even, k_law_even⟩ := (ok_law_even (P := P) (w := w) (base := base) T).ex
  obtain ⟨fd_law_names, G_law_names, b_law_names, k_law_names⟩ := (ok_law_names (P := P) (w := w) (base := base) T).ex
  obtain ⟨fd_Pack_cards, G_Pack_cards, b_Pack_cards, k_Pack_cards⟩ := (ok_Pack_cards (P := P) (w := w) (base := base) T).ex
  obtain ⟨fd_law_cell, G_law_cell, b_law_cell, k_law_cell⟩ := (ok_law_cell (P := P) (w := w) (base := base) T).ex
  obtain ⟨fd_law_box, G_law_box, b_law_box, k_law_box⟩ := (ok_law_box (P := P) (w := w) (base := base) T).ex
  obtain ⟨fd_Pack_Dinit, G_Pack_Dinit, b_Pack_Dinit, k_Pack_Dinit⟩ := (ok_Pack_Dinit (P := P) (w := w) (base := base) T).ex
  obtain ⟨fd_law_take, G_law_take, b_law_take, k_law_take⟩ := (ok_law_take (P := P) (w := w) (base := base) T).ex
  refine R.FunD.okG F sc_law (fun vs H Q E h => pu_len (fun ds r ⟨_, e, _⟩ => by rw [e]; rfl) h) (fun cdv A outer s H vs Q E hgd hr h => ⟨(t_law K 141651031 113), PSs.nox ?_, pure_law T.pk T.er h⟩)
  have hu65 : (A.deeper (envOfC "law" (defScope s_law) s.heap.objs.size (He.ga K "law") cdv)).units + 65 < cLine := by have := hr.un; omega
  exact (pss_cons (ps_for PassesOwn.never rfl (pi_range1 (by rfl) T.n_range (pa_cons (pe_callB (cr_max2 rfl) (by rfl) T.n_max bt_max (pa_cons pe_int (pa_cons (pe_callB (cr_min2 rfl) (by rfl) T.n_min bt_min (pa_cons pe_int (pa_cons (pe_callB call_lenA (by rfl) T.n_len bt_len (pa_cons (pv 0) pa_nil)) pa_nil))) pa_nil))) pa_nil)) (pg_name (i := 1) sc_law.nd rfl (by first | exact Or.inl rfl | exact Or.inr rfl)) (pss_cons (ps_set (i := 2) sc_law.nd rfl (by first | exact Or.inl rfl | exact Or.inr rfl) (pe_call G_law_box (hr.mono (by decide)) (by rfl) T.g__law_box k_law_box b_law_box .nil pass0 (pa_cons (pe_call G_law_cell (hr.mono (by decide)) (by rfl) T.g__law_cell k_law_cell b_law_cell .nil pass0 (pa_cons (pv 0) (pa_cons (pv 1) pa_nil))) pa_nil)))
  (pss_cons (ps_set (i := 3) sc_law.nd rfl (by first | exact Or.inl rfl | exact Or.inr rfl) (pe_op op_add pe_int (pe_call G_law_take (hr.mono (by decide)) (by rfl) T.g__law_take k_law_take b_law_take .nil pass0 (pa_cons (pv 2) (pa_cons pe_int pa_nil)))))
  (pss_cons (ps_set (i := 4) sc_law.nd rfl (by first | exact Or.inl rfl | exact Or.inr rfl) (pe_lst pa_nil))
  (pss_cons (ps_for PassesOwn.never rfl (pi_list (pe_call G_law_names (hr.mono (by decide)) (by rfl) T.g__law_names k_law_names b_law_names .nil pass0 (pa_cons (pv 2) (pa_cons (pe_ix ix_list (pe_lst (pa_cons pe_int (pa_cons (pe_op op_add pe_int (pe_call G_law_take (hr.mono (by decide)) (by rfl) T.g__law_take k_law_take b_law_take .nil pass0 (pa_cons (pv 2) (pa_cons pe_int pa_nil)))) pa_nil))) (pe_call G_law_take (hr.mono (by decide)) (by rfl) T.g__law_take k_law_take b_law_take .nil pass0 (pa_cons (pv 2) (pa_cons pe_int pa_nil))) (fun _ _ => rfl)) pa_nil)))) (pg_name (i := 5) sc_law.nd rfl (by first | exact Or.inl rfl | exact Or.inr rfl)) (pss_cons (ps_set (i := 10) sc_law.nd rfl (by first | exact Or.inl rfl | exact Or.inr rfl) (pe_lc (own := [("turn", 7)]) (g := (gName 7)) (tt := tYes) rfl sc_law.nd (pi_range1 (by rfl) T.n_range (pa_cons (pe_call G_law_take (hr.mono (by decide)) (by rfl) T.g__law_take k_law_take b_law_take .nil pass0 (pa_cons (pv 2) (pa_cons pe_int pa_nil))) pa_nil)) (blkOk_by (N := N_law) (own := [("turn", 7)]) (by first | decide +kernel | kernel_rfl)) (fun _ _ _ _ _ => (pg_name (i := 7) sc_law.nd rfl (by first | exact Or.inl rfl | exact Or.inr rfl))) (fun _ _ _ _ _ => pts_nil) (fun _ _ _ _ _ => (pe_call G_law_take (hr.mono (by decide)) (by rfl) T.g__law_take k_law_take b_law_take .nil pass0 (pa_cons (pv 2) (pa_cons (pv 3) pa_nil))))))
  (pss_one (ps_expr (pe_bm PySem.F.plainAttrs_list PySem.F.slot_list_append PySem.F.type_list_append mt_append (pv 4) (pa_cons (pe_tup (pa_cons (pv 5) (pa_cons (pe_bm PySem.F.plainAttrs_str PySem.F.slot_str_join PySem.F.type_str_join mt_joinR pe_str (pa_cons (pe_lc (own := [("hole", 16)]) (g := (gName 16)) (tt := tYes) rfl sc_law.nd (pi_range1 (by rfl) T.n_range (pa_cons (pv 3) pa_nil)) (blkOk_by (N := N_law) (own := [("hole", 16)]) (by first | decide +kernel | kernel_rfl)) (fun _ _ _ _ _ => (pg_name (i := 16) sc_law.nd rfl (by first | exact Or.inl rfl | exact Or.inr rfl))) (fun _ _ _ _ _ => pts_nil) (fun _ _ _ _ _ => (pe_ix ix_str pe_str (pe_callTy call_intR (by rfl) T.n_int bt_int (pa_cons (pe_cmpR op_in_seq (pv 16) (pv 10) (by rfl)) pa_nil)) (fun _ _ => rfl)))) pa_nil)) pa_nil))) pa_nil))))))
  (pss_cons (ps_set (i := 6) sc_law.nd rfl (by first | exact Or.inl rfl | exact Or.inr rfl) (pe_make T.mk_Pack G_Pack_Dinit (hr.mono (by decide)) (by rfl) T.g_Pack b_Pack_Dinit .nil pass0 (pa_cons (pv 4) pa_nil)))
  (pss_cons (ps_for PassesOwn.never rfl (pi_range1 (by rfl) T.n_range (pa_cons pe_int pa_nil)) (pg_name (i := 7) sc_law.nd rfl (by first | exact Or.inl rfl | exact Or.inr rfl)) (pss_cons (ps_set (i := 11) sc_law.nd rfl (by first | exact Or.inl rfl | exact Or.inr rfl) (pe_lc (own := [("at", 17)]) (g := (gName 17)) (tt := tYes) rfl sc_law.nd (pi_range1 (by rfl) T.n_range (pa_cons (pe_ix ix_list (pe_lst (pa_cons (pe_op op_add pe_int (pe_call G_law_take (hr.mono (by decide)) (by rfl) T.g__law_take k_law_take b_law_take .nil pass0 (pa_cons (pv 2) (pa_cons pe_int pa_nil)))) (pa_cons pe_int pa_nil))) (pe_call G_law_take (hr.mono (by decide)) (by rfl) T.g__law_take k_law_take b_law_take .nil pass0 (pa_cons (pv 2) (pa_cons pe_int pa_nil))) (fun _ _ => rfl)) pa_nil)) (blkOk_by (N := N_law) (own := [("at", 17)]) (by first | decide +kernel | kernel_rfl)) (fun _ _ _ _ _ => (pg_name (i := 17) sc_law.nd rfl (by first | exact Or.inl rfl | exact Or.inr rfl))) (fun _ _ _ _ _ => pts_nil) (fun _ _ _ _ _ => (pe_call G_law_take (hr.mono (by decide)) (by rfl) T.g__law_take k_law_take b_law_take .nil pass0 (pa_cons (pv 2) (pa_cons (pv 3) pa_nil))))))
  (pss_cons (ps_set (i := 12) sc_law.nd rfl (by first | exact Or.inl rfl | exact Or.inr rfl) (pe_lc (own := [("card", 18)]) (g := (gName 18)) (tt := (tTest (tOp (rEqD K) (tLc (iList K (tVar 11)) (gName 16) (tTest (tOp rEq (tOp rIxS (tOp (rIxT K) (tVar 18) (tC (.int 1))) (tVar 16)) (tC (.str "o")))) (tVar 16) [16]) (tLst tNil)))) rfl sc_law.nd (pi_list (pv 4)) (blkOk_by (N := N_law) (own := [("card", 18)]) (by first | decide +kernel | kernel_rfl)) (fun _ _ _ _ _ => (pg_name (i := 18) sc_law.nd rfl (by first | exact Or.inl rfl | exact Or.inr rfl))) (fun _ _ _ _ _ => (pts_one (pt_cmpR (op_eqD hr.units) (pe_lc (own := [("hole", 16)]) (g := (gName 16)) (tt := (tTest (tOp rEq (tOp rIxS (tOp (rIxT K) (tVar 18) (tC (.int 1))) (tVar 16)) (tC (.str "o"))))) rfl sc_law.nd (pi_list (pv 11)) (blkOk_by (N := N_law) (own := [("hole", 16)]) (by first | decide +kernel | kernel_rfl)) (fun _ _ _ _ _ => (pg_name (i := 16) sc_law.nd rfl (by first | exact Or.inl rfl | exact Or.inr rfl))) (fun _ _ _ _ _ => (pts_one (pt_cmpR op_eq (pe_ix ix_str (pe_ix ix_tup (pv 18) pe_int (fun _ _ => rfl)) (pv 16) (fun _ _ => rfl)) pe_str (nomark _)))) (fun _ _ _ _ _ => (pv 16))) (pe_lst pa_nil) (nomark _)))) (fun _ _ _ _ _ => (pv 18))))
  (pss_cons (ps_set (i := 13) sc_law.nd rfl (by first | exact Or.inl rfl | exact Or.inr rfl) (pe_call G_drop_all (hr.mono (by decide)) (by rfl) T.g_drop_all k_drop_all b_drop_all .nil passL (pa_cons (pv 6) (pa_cons (pe_ix ix_list (pe_lst (pa_cons (pe_callTy call_listOf (by rfl) T.n_list bt_list (pa_cons (pv 11) pa_nil)) (pa_cons (pe_callTy call_tupOf (by rfl) T.n_tuple bt_tuple (pa_cons (pv 11) pa_nil)) pa_nil))) (pe_op op_mod (pv 7) pe_int) (fun _ _ => rfl)) pa_nil))))
  (pss_cons (ps_set (i := 14) sc_law.nd rfl (by first | exact Or.inl rfl | exact Or.inr rfl) (pe_lst (pa_cons (pv 12) (pa_cons (pe_lc (own := [("card", 18)]) (g := (gName 18)) (tt := (tTest (tOp (rNotInD K) (tVar 18) (tVar 12)))) rfl sc_law.nd (pi_list (pv 4)) (blkOk_by (N := N_law) (own := [("card", 18)]) (by first | decide +kernel | kernel_rfl)) (fun _ _ _ _ _ => (pg_name (i := 18) sc_law.nd rfl (by first | exact Or.inl rfl | exact Or.inr rfl))) (fun _ _ _ _ _ => (pts_one (pt_cmpR (op_notInD hu65) (pv 18) (pv 12) (by rfl)))) (fun _ _ _ _ _ => (pv 18))) pa_nil))))
  (pss_cons (ps_if (pt_not (pt_val (pe_callG G_law_even hgd (hr.mono (by decide)) (by rfl) T.g__law_even k_law_even b_law_even pass0 (pa_cons (pe_lc (own := [("part", 19)]) (g := (gName 19)) (tt := tYes) rfl sc_law.nd (pi_tup (pv 13)) (blkOk_by (N := N_law) (own := [("part", 19)]) (by first | decide +kernel | kernel_rfl)) (fun _ _ _ _ _ => (pg_name (i := 19) sc_law.nd rfl (by first | exact Or.inl rfl | exact Or.inr rfl))) (fun _ _ _ _ _ => pts_nil) (fun _ _ _ _ _ => (pe_meth0 (pv 19) T.cl_Pack T.m_Pack_cards G_Pack_cards (hr.mono (by decide)) b_Pack_cards .nil pass0))) (pa_cons (pv 14) pa_nil))))) (pss_one (ps_ret pe_bl)) pss_nil)
  (pss_cons (ps_set (i := 15) sc_law.nd rfl (by first | exact Or.inl rfl | exact Or.inr rfl) (pv 6))
  (pss_cons (ps_for PassesOwn.never rfl (pi_list (pv 11)) (pg_name (i := 16) sc_law.nd rfl (by first | exact Or.inl rfl | exact Or.inr rfl)) (pss_one (ps_set (i := 15) sc_law.nd rfl (by first | exact Or.inl rfl | exact Or.inr rfl) (pe_ifExp (pt_cmpR op_gt (pe_lenOwn T.m_Pack_Dlen.at_ T.m_Pack_Dlen.fn G_Pack_Dlen (hr.mono (by decide)) b_Pack_Dlen pass0 (pv 15) (by rfl) T.n_len) pe_int (nomark _)) (pe_ix ix_tup (pe_call G_drop (hr.mono (by decide)) (by rfl) T.g_drop k_drop b_drop .nil pass0 (pa_cons (pv 15) (pa_cons (pv 16) pa_nil))) pe_int (fun _ _ => rfl)) (pv 15)))))
  (pss_one (ps_if (pt_cmpR (op_neD hr.units) (pe_meth0 (pv 15) T.cl_Pack T.m_Pack_cards G_Pack_cards (hr.mono (by decide)) b_Pack_cards .nil pass0) (pv 12) (nomark _)) (pss_one (ps_ret pe_bl)) pss_nil))))))))))
  (pss_cons (ps_set (i := 8) sc_law.nd rfl (by first | exact Or.inl rfl | exact Or.inr rfl) pe_non)
  (pss_cons (ps_try_as (i := 9) (tb := fun W => tDrop (tCallS (sp_drop_all K) (WE W) (tCons (tVar 6) (tCons (tOp rRep (tLst (tCons (tC (.int 0)) tNil)) (tC (.int 25))) tNil)))) (ts := fun a cls d => tAsg (tXf a cls d (He.ga K "BadHole") "found" (tVar 9)) (gName 8)) (Wout := fun _ _ _ _ => False) rfl rfl sc_law.nd rfl rfl ⟨rfl, by decide, Or.inl T.g_BadHole⟩ takes0 (fun W pn xe tk _ => pss_one (ps_expr (by exact (pe_callS G_drop_all (hr.mono (by decide)) (by rfl) T.g_drop_all k_drop_all b_drop_all (fun σ => passAt tk σ) (by exact (pa_cons (pv 6) (pa_cons (pe_op op_rep (pe_lst (pa_cons pe_int pa_nil)) pe_int) pa_nil))))))) (fun a oe cls d pn hz hf => pss_one (ps_set (i := 8) sc_law.nd rfl (by first | exact Or.inl rfl | exact Or.inr rfl) (by exact (pe_xf T.xf T.er.no hz hf (pv 9))))))
  (pss_one (ps_if (pt_cmpR (op_neD hr.units) (pv 8) (pe_op op_rep (pe_lst (pa_cons pe_int pa_nil)) pe_int) (nomark _)) (pss_one (ps_ret pe_bl)) pss_nil)))))))))))
  (pss_one (ps_ret pe_bl)))
end
end W47
set_option maxHeartbeats 0
namespace W47
open PySem PySem.Spec PyProof.Rows L2 R
def d_is_integer : He.DefD := ⟨("is_integer", none), "is_integer", "is_integer", defArgs s_is_integer, defBody s_is_integer, defScope s_is_integer, [], []⟩
def d_is_name : He.DefD := ⟨("is_name", none), "is_name", "is_name", defArgs s_is_name, defBody s_is_name, defScope s_is_name, [], []⟩
def d_is_list : He.DefD := ⟨("is_list", none), "is_list", "is_list", defArgs s_is_list, defBody s_is_list, defScope s_is_list, [], []⟩
def d_is_row : He.DefD := ⟨("is_row", none), "is_row", "is_row", defArgs s_is_row, defBody s_is_row, defScope s_is_row, [], []⟩
def d_is_open : He.DefD := ⟨("is_open", none), "is_open", "is_open", defArgs s_is_open, defBody s_is_open, defScope s_is_open, [], []⟩
def d_is_card : He.DefD := ⟨("is_card", none), "is_card", "is_card", defArgs s_is_card, defBody s_is_card, defScope s_is_card, [], []⟩
def d_Pack_Dinit : He.DefD := ⟨("Pack", some "__init__"), "__init__", "Pack.__init__", defArgs s_Pack_Dinit, defBody s_Pack_Dinit, defScope s_Pack_Dinit, [], []⟩
def d_Pack_Dlen : He.DefD := ⟨("Pack", some "__len__"), "__len__", "Pack.__len__", defArgs s_Pack_Dlen, defBody s_Pack_Dlen, defScope s_Pack_Dlen, [], []⟩
def d_Pack_cards : He.DefD := ⟨("Pack", some "cards"), "cards", "Pack.cards", defArgs s_Pack_cards, defBody s_Pack_cards, defScope s_Pack_cards, [], []⟩
def d_Pack_width : He.DefD := ⟨("Pack", some "width"), "width", "Pack.width", defArgs s_Pack_width, defBody s_Pack_width, defScope s_Pack_width, [], []⟩
def d_need_pack : He.DefD := ⟨("need_pack", none), "need_pack", "need_pack", defArgs s_need_pack, defBody s_need_pack, defScope s_need_pack, [], []⟩
def d_need_hole : He.DefD := ⟨("need_hole", none), "need_hole", "need_hole", defArgs s_need_hole, defBody s_need_hole, defScope s_need_hole, [], []⟩
def d_parted : He.DefD := ⟨("parted", none), "parted", "parted", defArgs s_parted, defBody s_parted, defScope s_parted, [], []⟩
def d_drop : He.DefD := ⟨("drop", none), "drop", "drop", defArgs s_drop, defBody s_drop, defScope s_drop, [], []⟩
def d_BadHole_Dinit : He.DefD := ⟨("BadHole", some "__init__"), "__init__", "BadHole.__init__", defArgs s_BadHole_Dinit, defBody s_BadHole_Dinit, defScope s_BadHole_Dinit, [], []⟩
def d_drop_all : He.DefD := ⟨("drop_all", none), "drop_all", "drop_all", defArgs s_drop_all, defBody s_drop_all, defScope s_drop_all, [], []⟩
def d_law_cell : He.DefD := ⟨("_law_cell", none), "_law_cell", "_law_cell", defArgs s_law_cell, defBody s_law_cell, defScope s_law_cell, [], []⟩
def d_law_box : He.DefD := ⟨("_law_box", none), "_law_box", "_law_box", defArgs s_law_box, defBody s_law_box, defScope s_law_box, [], []⟩
def d_law_take : He.DefD := ⟨("_law_take", none), "_law_take", "_law_take", defArgs s_law_take, defBody s_law_take, defScope s_law_take, [], []⟩
def d_law_even : He.DefD := ⟨("_law_even", none), "_law_even", "_law_even", defArgs s_law_even, defBody s_law_even, defScope s_law_even, [], []⟩
def d_law_names : He.DefD := ⟨("_law_names", none), "_law_names", "_law_names", defArgs s_law_names, defBody s_law_names, defScope s_law_names, [], []⟩
def d_law : He.DefD := ⟨("law", none), "law", "law", defArgs s_law, defBody s_law, defScope s_law, [], []⟩
def fn0 : List He.DefD := [d_is_integer, d_is_name, d_is_list, d_is_row, d_is_open, d_is_card, d_Pack_Dinit, d_Pack_Dlen, d_Pack_cards, d_Pack_width]
def fn1 : List He.DefD := [d_need_pack, d_need_hole, d_parted, d_drop, d_BadHole_Dinit, d_drop_all, d_law_cell, d_law_box, d_law_take, d_law_even]
def fn2 : List He.DefD := [d_law_names, d_law]
def fn : List He.DefD := fn0 ++ fn1 ++ fn2
def fa0 : List He.Fa := [.glo "BadHole", .glo "CardError", .glo "Pack", .glo "_law_box", .glo "_law_cell", .glo "_law_even", .glo "_law_names", .glo "_law_take", .glo "drop", .glo "drop_all"]
def fa1 : List He.Fa := [.glo "is_card", .glo "is_integer", .glo "is_list", .glo "is_name", .glo "is_open", .glo "is_row", .glo "law", .glo "need_hole", .glo "need_pack", .glo "parted"]
def fa2 : List He.Fa := [.free "all", .free "bool", .free "int", .free "isinstance", .free "len", .free "list", .free "max", .free "min", .free "range", .free "repr"]
def fa3 : List He.Fa := [.free "str", .free "tuple", .str "CLOSED" "o", .str "LETTERS" "abcdefghijklmnopqrstuvwxyz", .int "LONGEST_NAME" 8, .int "MOST_CARDS" 60, .int "MOST_NEEDLES" 24, .str "OPEN" "v", .int "WIDEST" 24, .meth "Pack" "__len__"]
def fa4 : List He.Fa := [.meth "Pack" "cards", .meth "Pack" "width", .cls "Pack", .noat "Pack" "pack_rows", .mkr "Pack"]
def fa : List He.Fa := fa0 ++ fa1 ++ fa2 ++ fa3 ++ fa4
def exB (K : PySem.W.Frag) : Bool := (erB K (He.ga K "BadHole") && (xfB K (He.ga K "BadHole") && (bsB K (He.ga K "CardError") && (inB K (He.ga K "BadHole") && ownB K (He.ga K "Pack")))))
theorem exQ {K : PySem.W.Frag} (h : exB K = true) : erB K (He.ga K "BadHole") = true ∧ xfB K (He.ga K "BadHole") = true ∧ bsB K (He.ga K "CardError") = true ∧ inB K (He.ga K "BadHole") = true := by
  obtain ⟨h1, h⟩ := He.ba h
  obtain ⟨h2, h⟩ := He.ba h
  obtain ⟨h3, h⟩ := He.ba h
  obtain ⟨h4, h⟩ := He.ba h
  exact ⟨h1, h2, h3, h4⟩
theorem exP {K : PySem.W.Frag} (h : exB K = true) : ownB K (He.ga K "Pack") = true := by
  obtain ⟨h1, h⟩ := He.ba h
  obtain ⟨h2, h⟩ := He.ba h
  obtain ⟨h3, h⟩ := He.ba h
  obtain ⟨h4, h⟩ := He.ba h
  exact h
abbrev RR : PySem.W.OpenRow := PySem.W.OpenLaw.row PySem.Challenge.rw_needlecards_k47_many_needles_at_once
abbrev hk : PySem.W.Hook := R.hookY 4 fa fn exB
def ob (s : PySem.W.SharedT) : He.AlD × Bool := R.obsY 4 fa fn exB (HandSHeadRun.getT s)
theorem ob_eq (s : PySem.W.SharedT) : ob s = hk.obs s.abs := R.obsY_eq (HandSHeadRun.getT_eq s)
def names0 : List Str := ["_wall", "CardError", "Absent", "BadHole", "BadCard", "BadPack", "Doubled", "Unlike", "NoCard", "LETTERS"]
def names1 : List Str := ["LONGEST_NAME", "is_integer", "is_name", "is_list", "CLOSED", "OPEN", "WIDEST", "is_row", "is_open", "MOST_CARDS"]
def names2 : List Str := ["MOST_NEEDLES", "BETWEEN", "is_card", "card_text", "Pack", "need_pack", "need_hole", "parted", "drop", "drop_all"]
def names3 : List Str := ["_law_cell", "_law_box", "_law_take", "_law_even", "_law_names"]
def names : List Str := names0 ++ names1 ++ names2 ++ names3
theorem run (w : World) : HandSHeadRun.RunEq RR (PySem.W.view RR.prog [40]) hk ob 60000 names w := by
  intro os
  kernel_rfl
theorem txt {K : PySem.W.Frag} {h : Heap} {mg : Str → Option Value} (X : K.In h) (G : h.Ns mainGlobals mg) (c : R.SaysY fa fn exB K) : Txt K mg :=
  { g_BadHole := He.glo_ok X G (c.d.fact 0 (f := .glo "BadHole") rfl),
    g_CardError := He.glo_ok X G (c.d.fact 1 (f := .glo "CardError") rfl),
    g_Pack := He.glo_ok X G (c.d.fact 2 (f := .glo "Pack") rfl),
    g__law_box := He.glo_ok X G (c.d.fact 3 (f := .glo "_law_box") rfl),
    g__law_cell := He.glo_ok X G (c.d.fact 4 (f := .glo "_law_cell") rfl),
    g__law_even := He.glo_ok X G (c.d.fact 5 (f := .glo "_law_even") rfl),
    g__law_names := He.glo_ok X G (c.d.fact 6 (f := .glo "_law_names") rfl),
    g__law_take := He.glo_ok X G (c.d.fact 7 (f := .glo "_law_take") rfl),
    g_drop := He.glo_ok X G (c.d.fact 8 (f := .glo "drop") rfl),
    g_drop_all := He.glo_ok X G (c.d.fact 9 (f := .glo "drop_all") rfl),
    g_is_card := He.glo_ok X G (c.d.fact 10 (f := .glo "is_card") rfl),
    g_is_integer := He.glo_ok X G (c.d.fact 11 (f := .glo "is_integer") rfl),
    g_is_list := He.glo_ok X G (c.d.fact 12 (f := .glo "is_list") rfl),
    g_is_name := He.glo_ok X G (c.d.fact 13 (f := .glo "is_name") rfl),
    g_is_open := He.glo_ok X G (c.d.fact 14 (f := .glo "is_open") rfl),
    g_is_row := He.glo_ok X G (c.d.fact 15 (f := .glo "is_row") rfl),
    g_law := He.glo_ok X G (c.d.fact 16 (f := .glo "law") rfl),
    g_need_hole := He.glo_ok X G (c.d.fact 17 (f := .glo "need_hole") rfl),
    g_need_pack := He.glo_ok X G (c.d.fact 18 (f := .glo "need_pack") rfl),
    g_parted := He.glo_ok X G (c.d.fact 19 (f := .glo "parted") rfl),
    n_all := He.free_ok X G (c.d.fact 20 (f := .free "all") rfl),
    n_bool := He.free_ok X G (c.d.fact 21 (f := .free "bool") rfl),
    n_int := He.free_ok X G (c.d.fact 22 (f := .free "int") rfl),
    n_isinstance := He.free_ok X G (c.d.fact 23 (f := .free "isinstance") rfl),
    n_len := He.free_ok X G (c.d.fact 24 (f := .free "len") rfl),
    n_list := He.free_ok X G (c.d.fact 25 (f := .free "list") rfl),
    n_max := He.free_ok X G (c.d.fact 26 (f := .free "max") rfl),
    n_min := He.free_ok X G (c.d.fact 27 (f := .free "min") rfl),
    n_range := He.free_ok X G (c.d.fact 28 (f := .free "range") rfl),
    n_repr := He.free_ok X G (c.d.fact 29 (f := .free "repr") rfl),
    n_str := He.free_ok X G (c.d.fact 30 (f := .free "str") rfl),
    n_tuple := He.free_ok X G (c.d.fact 31 (f := .free "tuple") rfl),
    c_CLOSED := He.str_ok X G (c.d.fact 32 (f := .str "CLOSED" "o") rfl),
    c_LETTERS := He.str_ok X G (c.d.fact 33 (f := .str "LETTERS" "abcdefghijklmnopqrstuvwxyz") rfl),
    c_LONGEST_NAME := He.int_ok X G (c.d.fact 34 (f := .int "LONGEST_NAME" 8) rfl),
    c_MOST_CARDS := He.int_ok X G (c.d.fact 35 (f := .int "MOST_CARDS" 60) rfl),
    c_MOST_NEEDLES := He.int_ok X G (c.d.fact 36 (f := .int "MOST_NEEDLES" 24) rfl),
    c_OPEN := He.str_ok X G (c.d.fact 37 (f := .str "OPEN" "v") rfl),
    c_WIDEST := He.int_ok X G (c.d.fact 38 (f := .int "WIDEST" 24) rfl),
    f_is_integer := c.d.def_ 0 (d := d_is_integer) rfl,
    f_is_name := c.d.def_ 1 (d := d_is_name) rfl,
    f_is_list := c.d.def_ 2 (d := d_is_list) rfl,
    f_is_row := c.d.def_ 3 (d := d_is_row) rfl,
    f_is_open := c.d.def_ 4 (d := d_is_open) rfl,
    f_is_card := c.d.def_ 5 (d := d_is_card) rfl,
    f_Pack_Dinit := c.d.def_ 6 (d := d_Pack_Dinit) rfl,
    f_Pack_Dlen := c.d.def_ 7 (d := d_Pack_Dlen) rfl,
    m_Pack_Dlen := He.meth_ok (c.d.fact 39 (f := .meth "Pack" "__len__") rfl),
    f_Pack_cards := c.d.def_ 8 (d := d_Pack_cards) rfl,
    m_Pack_cards := He.meth_ok (c.d.fact 40 (f := .meth "Pack" "cards") rfl),
    f_Pack_width := c.d.def_ 9 (d := d_Pack_width) rfl,
    m_Pack_width := He.meth_ok (c.d.fact 41 (f := .meth "Pack" "width") rfl),
    f_need_pack := c.d.def_ 10 (d := d_need_pack) rfl,
    f_need_hole := c.d.def_ 11 (d := d_need_hole) rfl,
    f_parted := c.d.def_ 12 (d := d_parted) rfl,
    f_drop := c.d.def_ 13 (d := d_drop) rfl,
    f_BadHole_Dinit := c.d.def_ 14 (d := d_BadHole_Dinit) rfl,
    f_drop_all := c.d.def_ 15 (d := d_drop_all) rfl,
    f_law_cell := c.d.def_ 16 (d := d_law_cell) rfl,
    f_law_box := c.d.def_ 17 (d := d_law_box) rfl,
    f_law_take := c.d.def_ 18 (d := d_law_take) rfl,
    f_law_even := c.d.def_ 19 (d := d_law_even) rfl,
    f_law_names := c.d.def_ 20 (d := d_law_names) rfl,
    f_law := c.d.def_ 21 (d := d_law) rfl,
    pk := ⟨He.cls_ok (c.d.fact 42 (f := .cls "Pack") rfl), He.noat_ok (c.d.fact 43 (f := .noat "Pack" "pack_rows") rfl), ownB_ok (He.cls_ok (c.d.fact 42 (f := .cls "Pack") rfl)) (exP c.more)⟩,
    mk_Pack := He.mkr_ok (c.d.fact 44 (f := .mkr "Pack") rfl),
    er := erB_ok (exQ c.more).1,
    xf := xfB_ok (exQ c.more).2.1,
    bs := bsB_ok (exQ c.more).2.2.1,
    i_BadHole := (inB_ok (exQ c.more).2.2.2).1,
    t_BadHole := (inB_ok (exQ c.more).2.2.2).2 }
theorem facts {P : Program} {w : World} {K : PySem.W.Frag} {h : Heap} {mg : Str → Option Value} {f : Addr} (X : K.In h) (G : h.Ns mainGlobals mg) (hfa : mg ("law" : Str) = some (.ref f)) (c : R.SaysY fa fn exB K) :
    ∃ fd : FuncData, (∀ (s : Shared) (v : Value), BindsTo s fd ⟨[v], []⟩ [("script", v)]) ∧ ∀ base : Heap, K.In base → base.Ns mainGlobals mg → FnOkG P w K mg base CX0 7 f fd ["script"] (sp_law K) := by
  have T := txt X G c
  obtain ⟨fd, F⟩ := T.f_law
  have e := hfa.symm.trans T.g_law
  cases e
  have b := FunD.bindsA (ps := ["script"]) F fun _ _ _ _ _ _ us hl => match us, hl with | [_], _ => rfl
  exact ⟨fd, fun s v => b s [v] rfl, fun base _ _ => ok_law T F⟩
end W47
open PySem PySem.W PySem.Calls PyProof.Rows
theorem PySem.Challenge.cw_needlecards_k47_many_needles_at_once_holds : PySem.Challenge.rw_needlecards_k47_many_needles_at_once.Holds := by
  w_on; o_law
  refine HandSHeadRun.head_any (r := OpenLaw.row PySem.Challenge.rw_needlecards_k47_many_needles_at_once) (q := view (OpenLaw.row PySem.Challenge.rw_needlecards_k47_many_needles_at_once).prog [40]) (H := W47.hk) (ob := W47.ob) (M := 60000) (loose := W47.names) (d := HandSHeadRun.topDef (OpenLaw.row PySem.Challenge.rw_needlecards_k47_many_needles_at_once).prog 40) (kwd := []) W47.ob_eq
    (by kernel_rfl) (fun s => by kernel_rfl) W47.run (by kernel_rfl) (by kernel_rfl) (by kernel_rfl) (by rfl) (by first | assumption | decide +kernel) (by decide +kernel) ⟨rfl, rfl, rfl, rfl, rfl, by decide +kernel⟩ ?hw ?hc
  case hw => w_witness2
  case hc =>
    refine R.walk_ofG (l := PySem.Challenge.rw_needlecards_k47_many_needles_at_once) (n := 63) (k := 7) (x := "script") (CX := fun _ => L2.CX0) rfl (by decide) (by kernel_rfl) ⟨rfl, by decide, by decide⟩ ?F (fun _ _ _ _ _ z => z)
    intro w mg fa h Y G hmg0
    obtain ⟨K, KX, c⟩ := Y
    have hmg : mg ("law" : PySem.Str) = some (.ref fa) := by
      have e : (HandSHeadRun.topDef (OpenLaw.row PySem.Challenge.rw_needlecards_k47_many_needles_at_once).prog 40).name = ("law" : PySem.Str) := by kernel_rfl
      rw [← e]
      exact hmg0
    obtain ⟨fd, hb, hF⟩ := W47.facts (P := (PySem.Challenge.rw_needlecards_k47_many_needles_at_once).prog) (w := w) KX G hmg c
    exact ⟨K, fd, R.sp_law K, KX, hb, fun H a ns hl _ hS => R.sp_law_start (Nat.le_trans hl (by decide)) hS, hF⟩
