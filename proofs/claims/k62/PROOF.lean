import PyProof.Rows.All
import Wide.All
import OpenK.AllK
import Wide.FinOn
import HandS.ForMost
import HandS.ForExc
import HandS.Flow
import HandS.Evl
import HandS.Wide
import HandS.Deep
import HandS.TryMany
import HandS.Property
import HandS.ExcInit
import HandS.TupAny
import HandS.SortOrd
import HandS.TupSets
import HandS.NoneIn
import HandS.Flt
import KE.KExcSuper
import HandS.ExcSuper
import HandS.ExcOwn
import HandS.ExcField
import HandS.SetFor
import HandS.Dict
import HandS.Small
import HandS.WordsDict
import HandS.DictTup
import HandS.TupLen
import PyProof.ReprRoads
import HandS.WordsExc
import HandS.Ends
import PyProof.ReprLen
import HandS.Style
import PySem.Challenge.RW_starward_k62_all_changes_or_none
set_option Elab.async false
set_option linter.all false
set_option maxRecDepth 100000
set_option maxHeartbeats 4000000
/-! The data layer, part a: data, what bears them in the heap, the state of a def that runs. -/
namespace DL
open PySem L2
abbrev Frag := PySem.W.Frag

/-- plain data -/
inductive D where
  | non | bl (b : Bool) | int (i : Int) | str (s : Str)
  | tup (ds : List D) | lst (ds : List D)
  | ins (C : Addr) (fs : List (Str × D))
  /-- a caught exception's object, its own dict -/
  | exv (a dd : Addr) (fs : List (Str × D))
  /-- dicts: their keys (ints and texts; tuples of these), what they hold -/
  | dct (ks : List Key) (ds : List D)
  | dtt (ks : List (List Key)) (ds : List D)
  | any

theorem sqt_mono {K : Frag} {G G' : Hp} {a : Addr} {xs : List V} (s : Same G G') (h : SqT K G a xs) : SqT K G' a xs := by
  rcases h with (h | ⟨o, h⟩) | h
  · exact .inl (.inl (s _ _ h))
  · exact .inl (.inr ⟨o, s _ _ h⟩)
  · exact .inr h
theorem sql_mono {K : Frag} {G G' : Hp} {a : Addr} {xs : List V} (s : Same G G') (h : SqL K G a xs) : SqL K G' a xs := Same.seq s h

mutual
/-- v bears the datum d, by what the heap G says -/
inductive Rep (K : Frag) (G : Hp) : V → D → Prop
  | non : Rep K G .non .non
  | bl (b : Bool) : Rep K G (.bl b) (.bl b)
  | int (i : Int) : Rep K G (.int i) (.int i)
  | str (s : Str) : Rep K G (.str s) (.str s)
  | tup {a : Addr} {vs : List V} {ds : List D} : SqT K G a vs → Reps K G vs ds → Rep K G (.ref a) (.tup ds)
  | lst {a : Addr} {vs : List V} {ds : List D} : SqL K G a vs → Reps K G vs ds → Rep K G (.ref a) (.lst ds)
  | ins {a C dx : Addr} {vs : List (Str × V)} {ds : List (Str × D)} : G a = some (.ins C dx vs) → RepF K G vs ds → Rep K G (.ref a) (.ins C ds)
  | exv {a dd : Addr} {vs : List (Str × V)} {ds : List (Str × D)} : G dd = some (.xd vs) → RepF K G vs ds → Rep K G (.ref a) (.exv a dd ds)
  | dct {a : Addr} {vs : List (Key × V)} {ks : List Key} {ds : List D} : G a = some (.dK vs) → vs.map (·.1) = ks → Reps K G (vs.map (·.2)) ds → Rep K G (.ref a) (.dct ks ds)
  | dtt {a : Addr} {vs : List (List Key × V)} {ks : List (List Key)} {ds : List D} : G a = some (.dT vs) → vs.map (·.1) = ks → Reps K G (vs.map (·.2)) ds → Rep K G (.ref a) (.dtt ks ds)
  | any (v : V) : Rep K G v .any
inductive Reps (K : Frag) (G : Hp) : List V → List D → Prop
  | nil : Reps K G [] []
  | cons {v : V} {vs : List V} {d : D} {ds : List D} : Rep K G v d → Reps K G vs ds → Reps K G (v :: vs) (d :: ds)
inductive RepF (K : Frag) (G : Hp) : List (Str × V) → List (Str × D) → Prop
  | nil : RepF K G [] []
  | cons {f : Str} {v : V} {vs : List (Str × V)} {d : D} {ds : List (Str × D)} : Rep K G v d → RepF K G vs ds → RepF K G ((f, v) :: vs) ((f, d) :: ds)
end

section
variable {K : Frag} {G G' : Hp}
mutual
theorem Rep.mono (s : Same G G') : ∀ (d : D) {v : V}, Rep K G v d → Rep K G' v d
  | .non, _, h => by cases h; exact .non
  | .bl b, _, h => by cases h; exact .bl b
  | .int i, _, h => by cases h; exact .int i
  | .str x, _, h => by cases h; exact .str x
  | .any, v, _ => .any v
  | .tup ds, _, h => by cases h with | tup a r => exact .tup (sqt_mono s a) (Reps.mono s ds r)
  | .lst ds, _, h => by cases h with | lst a r => exact .lst (sql_mono s a) (Reps.mono s ds r)
  | .ins C fs, _, h => by cases h with | ins a r => exact .ins (s _ _ a) (RepF.mono s fs r)
  | .exv _ _ fs, _, h => by cases h with | exv a r => exact .exv (s _ _ a) (RepF.mono s fs r)
  | .dct _ ds, _, h => by cases h with | dct a e r => exact .dct (s _ _ a) e (Reps.mono s ds r)
  | .dtt _ ds, _, h => by cases h with | dtt a e r => exact .dtt (s _ _ a) e (Reps.mono s ds r)
theorem Reps.mono (s : Same G G') : ∀ (ds : List D) {vs : List V}, Reps K G vs ds → Reps K G' vs ds
  | [], _, h => by cases h; exact .nil
  | d :: ds, _, h => by cases h with | cons a r => exact .cons (Rep.mono s d a) (Reps.mono s ds r)
theorem RepF.mono (s : Same G G') : ∀ (ds : List (Str × D)) {vs : List (Str × V)}, RepF K G vs ds → RepF K G' vs ds
  | [], _, h => by cases h; exact .nil
  | (f, d) :: ds, _, h => by cases h with | cons a r => exact .cons (Rep.mono s d a) (RepF.mono s ds r)
end
theorem Reps.length : ∀ {ds : List D} {vs : List V}, Reps K G vs ds → vs.length = ds.length
  | [], _, h => by cases h; rfl
  | d :: ds, _, h => by cases h with | cons a r => exact congrArg (· + 1) (Reps.length r)
theorem Reps.get : ∀ {ds : List D} {vs : List V} {i : Nat} {d : D}, Reps K G vs ds → ds[i]? = some d → ∃ v, vs[i]? = some v ∧ Rep K G v d
  | [], _, _, _, _, e => by simp at e
  | d :: ds, _, 0, _, h, e => by cases h with | cons a r => simp at e; subst e; exact ⟨_, rfl, a⟩
  | d :: ds, _, i + 1, _, h, e => by
    cases h with
    | cons a r =>
      obtain ⟨v, h1, h2⟩ := Reps.get (i := i) r (by simpa using e)
      exact ⟨v, by simpa using h1, h2⟩
theorem Reps.getV : ∀ {ds : List D} {vs : List V} {i : Nat} {v : V}, Reps K G vs ds → vs[i]? = some v → ∃ d, ds[i]? = some d ∧ Rep K G v d
  | [], _, _, _, h, e => by cases h; simp at e
  | d :: ds, _, 0, _, h, e => by cases h with | cons a r => simp at e; subst e; exact ⟨_, rfl, a⟩
  | d :: ds, _, i + 1, _, h, e => by
    cases h with
    | cons a r =>
      obtain ⟨v, h1, h2⟩ := Reps.getV (i := i) r (by simpa using e)
      exact ⟨v, by simpa using h1, h2⟩
theorem Reps.append : ∀ {ds es : List D} {vs ws : List V}, Reps K G vs ds → Reps K G ws es → Reps K G (vs ++ ws) (ds ++ es)
  | [], _, _, _, h, k => by cases h; exact k
  | d :: ds, _, _, _, h, k => by cases h with | cons a r => exact .cons a (Reps.append r k)
theorem Reps.snoc {ds : List D} {vs : List V} {v : V} {d : D} (h : Reps K G vs ds) (k : Rep K G v d) : Reps K G (vs ++ [v]) (ds ++ [d]) := h.append (.cons k .nil)
theorem Reps.take : ∀ (n : Nat) {ds : List D} {vs : List V}, Reps K G vs ds → Reps K G (vs.take n) (ds.take n)
  | 0, _, _, _ => .nil
  | n + 1, [], _, h => by cases h; exact .nil
  | n + 1, d :: ds, _, h => by cases h with | cons a r => exact .cons a (Reps.take n r)
theorem Reps.drop : ∀ (n : Nat) {ds : List D} {vs : List V}, Reps K G vs ds → Reps K G (vs.drop n) (ds.drop n)
  | 0, _, _, h => h
  | n + 1, [], _, h => by cases h; exact .nil
  | n + 1, d :: ds, _, h => by cases h with | cons a r => exact Reps.drop n r
theorem Reps.set : ∀ {ds : List D} {vs : List V} {v : V} {d : D} (i : Nat), Reps K G vs ds → Rep K G v d → Reps K G (vs.set i v) (ds.set i d)
  | [], _, _, _, _, h, _ => by cases h; exact .nil
  | e :: ds, _, _, _, 0, h, k => by cases h with | cons a r => exact .cons k r
  | e :: ds, _, _, _, i + 1, h, k => by cases h with | cons a r => exact .cons a (Reps.set i r k)
theorem RepF.look : ∀ {ds : List (Str × D)} {vs : List (Str × V)} {f : Str} {d : D}, RepF K G vs ds → ds.lookup f = some d → ∃ v, vs.lookup f = some v ∧ Rep K G v d
  | [], _, _, _, _, e => by cases e
  | (g, x) :: ds, _, f, d, h, e => by
    cases h with
    | @cons _ v vs _ _ a r =>
      by_cases q : f = g
      · subst q
        have e1 : List.lookup f ((f, x) :: ds) = some x := by simp [List.lookup]
        rw [e1] at e
        cases e
        exact ⟨v, by simp [List.lookup], a⟩
      · have qb : (f == g) = false := by simpa using q
        have e1 : List.lookup f ((g, x) :: ds) = List.lookup f ds := by simp [List.lookup, qb]
        rw [e1] at e
        obtain ⟨u, h1, h2⟩ := RepF.look r e
        exact ⟨u, by simp [List.lookup, qb, h1], h2⟩
theorem RepF.none : ∀ {ds : List (Str × D)} {vs : List (Str × V)} {f : Str}, RepF K G vs ds → ds.lookup f = Option.none → vs.lookup f = Option.none
  | [], _, _, h, _ => by cases h; rfl
  | (g, x) :: ds, _, f, h, e => by
    cases h with
    | @cons _ v vs _ _ a r =>
      by_cases q : f = g
      · subst q
        have e1 : List.lookup f ((f, x) :: ds) = some x := by simp [List.lookup]
        rw [e1] at e
        cases e
      · have qb : (f == g) = false := by simpa using q
        have e1 : List.lookup f ((g, x) :: ds) = List.lookup f ds := by simp [List.lookup, qb]
        rw [e1] at e
        have h1 := RepF.none r e
        simp [List.lookup, qb, h1]
/-- a field stored, on data -/
def putD (f : Str) (d : D) : List (Str × D) → List (Str × D)
  | [] => [(f, d)]
  | (g, x) :: r => if g = f then (g, d) :: r else (g, x) :: putD f d r
theorem RepF.put {f : Str} {v : V} {d : D} (k : Rep K G v d) : ∀ {ds : List (Str × D)} {vs : List (Str × V)}, RepF K G vs ds → RepF K G (putF f v vs) (putD f d ds)
  | [], _, h => by cases h; exact .cons k .nil
  | (g, x) :: ds, _, h => by
    cases h with
    | @cons _ w vs _ _ a r =>
      show RepF K G (if g = f then (g, v) :: vs else (g, w) :: putF f v vs) (if g = f then (g, d) :: ds else (g, x) :: putD f d ds)
      by_cases q : g = f
      · rw [if_pos q, if_pos q]
        exact .cons k r
      · rw [if_neg q, if_neg q]
        exact .cons a (RepF.put k r)
/-! dicts: pairs of keys and what they hold -/
section
variable {κ : Type} [DecidableEq κ]
def RepP (K : Frag) (G : Hp) (vs : List (κ × V)) (ds : List (κ × D)) : Prop := vs.map (·.1) = ds.map (·.1) ∧ Reps K G (vs.map (·.2)) (ds.map (·.2))
def valD (kvs : List (κ × D)) (k : κ) : Option D := (kvs.find? fun kv => decide (kv.1 = k)).map (·.2)
def putKD (kvs : List (κ × D)) (k : κ) (d : D) : List (κ × D) := if (kvs.any fun kv => decide (kv.1 = k)) = true then kvs.map (fun kv => if kv.1 = k then (kv.1, d) else kv) else kvs ++ [(k, d)]
def dropKD (kvs : List (κ × D)) (k : κ) : List (κ × D) := kvs.filter fun kv => decide (kv.1 ≠ k)
theorem RepP.nil : RepP K G ([] : List (κ × V)) [] := ⟨rfl, .nil⟩
theorem RepP.cons {k : κ} {v : V} {d : D} {vs : List (κ × V)} {ds : List (κ × D)} (h : Rep K G v d) (r : RepP K G vs ds) : RepP K G ((k, v) :: vs) ((k, d) :: ds) := ⟨by simp [r.1], .cons h r.2⟩
theorem RepP.inv {vs : List (κ × V)} {k : κ} {d : D} {ds : List (κ × D)} (h : RepP K G vs ((k, d) :: ds)) : ∃ v vs', vs = (k, v) :: vs' ∧ Rep K G v d ∧ RepP K G vs' ds := by
  obtain ⟨h1, h2⟩ := h
  cases vs with
  | nil => cases h1
  | cons p vs =>
    obtain ⟨k', v⟩ := p
    simp only [List.map_cons, List.cons.injEq] at h1
    obtain ⟨rfl, h1⟩ := h1
    cases h2 with
    | cons a r => exact ⟨v, vs, rfl, a, h1, r⟩
theorem RepP.inv0 {vs : List (κ × V)} (h : RepP K G vs ([] : List (κ × D))) : vs = [] := by
  have := h.1
  cases vs with
  | nil => rfl
  | cons p vs => cases this
theorem RepP.mono (s : Same G G') {vs : List (κ × V)} {ds : List (κ × D)} (h : RepP K G vs ds) : RepP K G' vs ds := ⟨h.1, Reps.mono s _ h.2⟩
theorem RepP.length {vs : List (κ × V)} {ds : List (κ × D)} (h : RepP K G vs ds) : vs.length = ds.length := by
  have := congrArg List.length h.1
  simpa using this
theorem RepP.look (k : κ) : ∀ {ds : List (κ × D)} {vs : List (κ × V)}, RepP K G vs ds → (∀ d, valD ds k = some d → ∃ v, valV vs k = some v ∧ Rep K G v d) ∧ (valD ds k = none → valV vs k = none)
  | [], vs, h => by
    obtain rfl := h.inv0
    exact ⟨fun d e => by simp [valD] at e, fun _ => rfl⟩
  | (j, x) :: ds, vs, h => by
    obtain ⟨v, vs', rfl, a, r⟩ := h.inv
    obtain ⟨h1, h2⟩ := RepP.look k r
    by_cases q : j = k
    · refine ⟨fun d e => ?_, fun e => ?_⟩
      · simp [valD, q] at e
        subst e
        exact ⟨v, valV_pos q, a⟩
      · simp [valD, q] at e
    · have e1 : valD ((j, x) :: ds) k = valD ds k := by simp [valD, q]
      have e2 : valV ((j, v) :: vs') k = valV vs' k := valV_neg q
      rw [e1, e2]
      exact ⟨h1, h2⟩
theorem RepP.any (k : κ) : ∀ {ds : List (κ × D)} {vs : List (κ × V)}, RepP K G vs ds → (vs.any fun kv => decide (kv.1 = k)) = ds.any fun kv => decide (kv.1 = k)
  | [], vs, h => by obtain rfl := h.inv0; rfl
  | (j, x) :: ds, vs, h => by
    obtain ⟨v, vs', rfl, a, r⟩ := h.inv
    simp only [List.any_cons, RepP.any k r]
theorem RepP.mapPut (k : κ) {v : V} {d : D} (hv : Rep K G v d) : ∀ {ds : List (κ × D)} {vs : List (κ × V)}, RepP K G vs ds → RepP K G (vs.map fun kv => if kv.1 = k then (kv.1, v) else kv) (ds.map fun kv => if kv.1 = k then (kv.1, d) else kv)
  | [], vs, h => by obtain rfl := h.inv0; exact .nil
  | (j, x) :: ds, vs, h => by
    obtain ⟨u, vs', rfl, a, r⟩ := h.inv
    simp only [List.map_cons]
    by_cases q : j = k
    · simp only [q, if_true]
      exact .cons hv (RepP.mapPut k hv r)
    · simp only [q, if_false]
      exact .cons a (RepP.mapPut k hv r)
theorem RepP.snoc {k : κ} {v : V} {d : D} (hv : Rep K G v d) : ∀ {ds : List (κ × D)} {vs : List (κ × V)}, RepP K G vs ds → RepP K G (vs ++ [(k, v)]) (ds ++ [(k, d)])
  | [], vs, h => by obtain rfl := h.inv0; exact .cons hv .nil
  | (j, x) :: ds, vs, h => by
    obtain ⟨u, vs', rfl, a, r⟩ := h.inv
    exact .cons a (RepP.snoc hv r)
theorem RepP.put (k : κ) {v : V} {d : D} (hv : Rep K G v d) {ds : List (κ × D)} {vs : List (κ × V)} (r : RepP K G vs ds) : RepP K G (putK vs k v) (putKD ds k d) := by
  unfold putK putKD
  rw [RepP.any k r]
  split
  · exact r.mapPut k hv
  · exact r.snoc hv
theorem RepP.drop (k : κ) : ∀ {ds : List (κ × D)} {vs : List (κ × V)}, RepP K G vs ds → RepP K G (dropK vs k) (dropKD ds k)
  | [], vs, h => by obtain rfl := h.inv0; exact .nil
  | (j, x) :: ds, vs, h => by
    obtain ⟨u, vs', rfl, a, r⟩ := h.inv
    unfold dropK dropKD
    by_cases q : j = k
    · simp only [List.filter_cons, q, ne_eq, not_true_eq_false, decide_false, Bool.false_eq_true, if_false]
      exact RepP.drop k r
    · simp only [List.filter_cons, q, ne_eq, not_false_eq_true, decide_true, if_true]
      exact .cons a (RepP.drop k r)
end
theorem RepF.length : ∀ {ds : List (Str × D)} {vs : List (Str × V)}, RepF K G vs ds → vs.length = ds.length
  | [], _, h => by cases h; rfl
  | d :: ds, _, h => by cases h with | cons a r => exact congrArg (· + 1) (RepF.length r)
end

/-! ### the state of a def that runs -/
/-- what an owned object holds -/
inductive OD where
  | lst (ds : List D)
  | ins (C : Addr) (fs : List (Str × D))
  | dct (kvs : List (Key × D))
  | dtt (kvs : List (List Key × D))
  /-- a list, a dict that an argument brought in -/
  | mls (ds : List D)
  | mdc (kvs : List (Key × D))
/-- brought in by an argument (an instance: in slot 0 alone) -/
def OD.mk : OD → Bool
  | .mls _ => true
  | .mdc _ => true
  | _ => false
def OD.isI : OD → Bool
  | .ins _ _ => true
  | _ => false
/-- a slot: nothing is known; a datum that stays; an object that this slot alone owns -/
inductive Sl where
  | un
  | im (d : D)
  | ow (o : OD)
def OwnAt (K : Frag) (G : Hp) : HO → OD → Prop
  | .lst vs, .lst ds => Reps K G vs ds
  | .lst vs, .mls ds => Reps K G vs ds
  | .dK vs, .dct ds => RepP K G vs ds
  | .dK vs, .mdc ds => RepP K G vs ds
  | .dT vs, .dtt ds => RepP K G vs ds
  | .ins C _ vs, .ins C' ds => C = C' ∧ RepF K G vs ds
  | _, _ => False
theorem OwnAt.mono {K : Frag} {G G' : Hp} (s : Same G G') {h : HO} {o : OD} (q : OwnAt K G h o) : OwnAt K G' h o := by
  cases o with
  | lst ds => cases h with | lst vs => exact Reps.mono s ds q | _ => exact q.elim
  | mls ds => cases h with | lst vs => exact Reps.mono s ds q | _ => exact q.elim
  | dct ds => cases h with | dK vs => exact RepP.mono s q | _ => exact q.elim
  | mdc ds => cases h with | dK vs => exact RepP.mono s q | _ => exact q.elim
  | dtt ds => cases h with | dT vs => exact RepP.mono s q | _ => exact q.elim
  | ins C ds => cases h with | ins C' dx vs => exact ⟨q.1, RepF.mono s ds q.2⟩ | _ => exact q.elim
/-- the base of a def's run: the heap at its entry (less what it may change), the part that holds the data -/
structure Bs where
  B : Hp
  G : Hp
  /-- the object that slot 0 brought in, its own dict -/
  me : Option (Addr × Addr)
  /-- the lists and dicts that slots brought in -/
  mo : Nat → Option Addr
/-- the heap has grown, the part of the data with it -/
structure Gr (G H G' H' : Hp) : Prop where
  hh : Same H H'
  gg : Same G G'
  fr : ∀ a, G a = none → G' a ≠ none → H a = none
  gh : Same G' H'
theorem Gr.refl {G H : Hp} (s : Same G H) : Gr G H G H := ⟨Same.refl _, Same.refl _, fun _ h k => absurd h k, s⟩
theorem Gr.trans {G H G1 H1 G2 H2 : Hp} (a : Gr G H G1 H1) (b : Gr G1 H1 G2 H2) : Gr G H G2 H2 :=
  ⟨a.hh.trans b.hh, a.gg.trans b.gg, fun x h k => by
    by_cases q : G1 x = none
    · exact a.hh.free (b.fr x q k)
    · exact a.fr x h q, b.gh⟩

structure Ok (K : Frag) (b : Bs) (G H : Hp) (σ : St) (ρ : List Sl) : Prop where
  g0 : Same b.G G
  fr : ∀ a, b.G a = none → G a ≠ none → b.B a = none
  gh : Same G H
  bh : Same b.B H
  len : σ.length = ρ.length
  im : ∀ (i : Nat) (d : D), ρ[i]? = some (Sl.im d) → ∃ v, σ[i]? = some (some v) ∧ Rep K G v d
  ow : ∃ ad : Nat → Addr, (∀ (i : Nat) (o : OD), ρ[i]? = some (Sl.ow o) → σ[i]? = some (some (.ref (ad i))) ∧ G (ad i) = none ∧ b.B (ad i) = none ∧ ∃ h, H (ad i) = some h ∧ OwnAt K G h o) ∧
    ∀ (i j : Nat) (oi oj : OD), ρ[i]? = some (Sl.ow oi) → ρ[j]? = some (Sl.ow oj) → ad i = ad j → i = j
  mine : ∀ (p dx C : Addr) (fs : List (Str × D)), b.me = some (p, dx) → ρ[0]? = some (Sl.ow (.ins C fs)) → σ[0]? = some (some (.ref p)) ∧ ∃ vs, H p = some (.ins C dx vs)
  marks : ∀ (i : Nat) (p : Addr) (o : OD), b.mo i = some p → ρ[i]? = some (Sl.ow o) → o.mk = true → σ[i]? = some (some (.ref p))

section
variable {K : Frag} {b : Bs} {G H G' H' : Hp} {σ : St} {ρ : List Sl}
theorem Ok.refl (o : Ok K b G H σ ρ) : Gr G H G H := Gr.refl o.gh
theorem Ok.gr (o : Ok K b G H σ ρ) (g : Gr G H G' H') : Ok K b G' H' σ ρ where
  g0 := o.g0.trans g.gg
  fr := fun a h k => by
    by_cases q : G a = none
    · exact o.bh.free (g.fr a q k)
    · exact o.fr a h q
  gh := g.gh
  bh := o.bh.trans g.hh
  len := o.len
  im := fun i d h => by
    obtain ⟨v, h1, h2⟩ := o.im i d h
    exact ⟨v, h1, Rep.mono g.gg d h2⟩
  ow := by
    obtain ⟨ad, h1, h2⟩ := o.ow
    refine ⟨ad, fun i x e => ?_, h2⟩
    obtain ⟨e1, e2, e3, h, e4, e5⟩ := h1 i x e
    refine ⟨e1, ?_, e3, h, g.hh _ _ e4, OwnAt.mono g.gg e5⟩
    by_cases q : G' (ad i) = none
    · exact q
    · have := g.fr _ e2 q
      rw [e4] at this
      cases this
  mine := fun p dx C fs e h => by
    obtain ⟨h1, vs, h2⟩ := o.mine p dx C fs e h
    exact ⟨h1, vs, g.hh _ _ h2⟩
  marks := o.marks
/-- a datum into a slot -/
theorem Ok.set (o : Ok K b G H σ ρ) (i : Nat) {v : V} {d : D} (r : Rep K G v d) : Ok K b G H (σ.set i (some v)) (ρ.set i (Sl.im d)) where
  g0 := o.g0
  fr := o.fr
  gh := o.gh
  bh := o.bh
  len := by simp [o.len]
  im := fun j e h => by
    by_cases q : i = j
    · subst q
      have hl : i < ρ.length := by
        by_cases z : i < ρ.length
        · exact z
        · rw [List.getElem?_eq_none (by simpa using z)] at h; cases h
      rw [List.getElem?_set_self hl] at h
      cases h
      exact ⟨v, by rw [List.getElem?_set_self (by rw [o.len]; exact hl)], r⟩
    · rw [List.getElem?_set_ne q] at h
      obtain ⟨u, h1, h2⟩ := o.im j e h
      exact ⟨u, by rw [List.getElem?_set_ne q]; exact h1, h2⟩
  ow := by
    obtain ⟨ad, h1, h2⟩ := o.ow
    have k : ∀ (j : Nat) (x : OD), (ρ.set i (Sl.im d))[j]? = some (Sl.ow x) → i ≠ j ∧ ρ[j]? = some (Sl.ow x) := fun j x h => by
      by_cases q : i = j
      · subst q
        by_cases z : i < ρ.length
        · rw [List.getElem?_set_self z] at h; cases h
        · rw [List.getElem?_eq_none (by simpa using z)] at h; cases h
      · rw [List.getElem?_set_ne q] at h
        exact ⟨q, h⟩
    refine ⟨ad, fun j x h => ?_, fun j l x y hj hl => h2 j l x y (k j x hj).2 (k l y hl).2⟩
    obtain ⟨q, h'⟩ := k j x h
    obtain ⟨e1, e2⟩ := h1 j x h'
    exact ⟨by rw [List.getElem?_set_ne q]; exact e1, e2⟩
  mine := fun p dx C fs e h => by
    by_cases q : i = 0
    · subst q
      by_cases z : 0 < ρ.length
      · rw [List.getElem?_set_self z] at h; cases h
      · rw [List.getElem?_eq_none (by simpa using z)] at h; cases h
    · rw [List.getElem?_set_ne q] at h ⊢
      exact o.mine p dx C fs e h
  marks := fun j p x e h k => by
    by_cases q : i = j
    · subst q
      by_cases z : i < ρ.length
      · rw [List.getElem?_set_self z] at h; cases h
      · rw [List.getElem?_eq_none (by simpa using z)] at h; cases h
    · rw [List.getElem?_set_ne q] at h ⊢
      exact o.marks j p x e h k
/-- a slot is forgotten -/
theorem Ok.clear (o : Ok K b G H σ ρ) (i : Nat) (x : Option V) : Ok K b G H (σ.set i x) (ρ.set i Sl.un) where
  g0 := o.g0
  fr := o.fr
  gh := o.gh
  bh := o.bh
  len := by simp [o.len]
  im := fun j e h => by
    by_cases q : i = j
    · subst q
      by_cases z : i < ρ.length
      · rw [List.getElem?_set_self z] at h; cases h
      · rw [List.getElem?_eq_none (by simpa using z)] at h; cases h
    · rw [List.getElem?_set_ne q] at h
      obtain ⟨u, h1, h2⟩ := o.im j e h
      exact ⟨u, by rw [List.getElem?_set_ne q]; exact h1, h2⟩
  ow := by
    obtain ⟨ad, h1, h2⟩ := o.ow
    have k : ∀ (j : Nat) (x : OD), (ρ.set i Sl.un)[j]? = some (Sl.ow x) → i ≠ j ∧ ρ[j]? = some (Sl.ow x) := fun j x h => by
      by_cases q : i = j
      · subst q
        by_cases z : i < ρ.length
        · rw [List.getElem?_set_self z] at h; cases h
        · rw [List.getElem?_eq_none (by simpa using z)] at h; cases h
      · rw [List.getElem?_set_ne q] at h
        exact ⟨q, h⟩
    refine ⟨ad, fun j x h => ?_, fun j l x y hj hl => h2 j l x y (k j x hj).2 (k l y hl).2⟩
    obtain ⟨q, h'⟩ := k j x h
    obtain ⟨e1, e2⟩ := h1 j x h'
    exact ⟨by rw [List.getElem?_set_ne q]; exact e1, e2⟩
  mine := fun p dx C fs e h => by
    by_cases q : i = 0
    · subst q
      by_cases z : 0 < ρ.length
      · rw [List.getElem?_set_self z] at h; cases h
      · rw [List.getElem?_eq_none (by simpa using z)] at h; cases h
    · rw [List.getElem?_set_ne q] at h ⊢
      exact o.mine p dx C fs e h
  marks := fun j p x e h k => by
    by_cases q : i = j
    · subst q
      by_cases z : i < ρ.length
      · rw [List.getElem?_set_self z] at h; cases h
      · rw [List.getElem?_eq_none (by simpa using z)] at h; cases h
    · rw [List.getElem?_set_ne q] at h ⊢
      exact o.marks j p x e h k
/-- an object of one's own into a slot: it was free before -/
theorem Ok.setOwn {H0 : Hp} {G0 : Hp} (o0 : Ok K b G0 H0 σ ρ) (o : Ok K b G H σ ρ) (i : Nat) (hi : i < ρ.length) {a : Addr} {h : HO} {x : OD} (n : H0 a = none) (ng : G a = none) (e : H a = some h) (w : OwnAt K G h x) (hm : i ≠ 0 ∨ x.isI = false) (hk : x.mk = false) :
    Ok K b G H (σ.set i (some (.ref a))) (ρ.set i (Sl.ow x)) where
  g0 := o.g0
  fr := o.fr
  gh := o.gh
  bh := o.bh
  len := by simp [o.len]
  im := fun j e h => by
    by_cases q : i = j
    · subst q
      rw [List.getElem?_set_self hi] at h; cases h
    · rw [List.getElem?_set_ne q] at h
      obtain ⟨u, h1, h2⟩ := o.im j e h
      exact ⟨u, by rw [List.getElem?_set_ne q]; exact h1, h2⟩
  ow := by
    obtain ⟨ad, h1, h2⟩ := o.ow
    obtain ⟨ad0, h10, h20⟩ := o0.ow
    have nb : b.B a = none := o0.bh.free n
    have k : ∀ (j : Nat) (y : OD), i ≠ j → (ρ.set i (Sl.ow x))[j]? = some (Sl.ow y) → ρ[j]? = some (Sl.ow y) := fun j y q h => by
      rw [List.getElem?_set_ne q] at h
      exact h
    have na : ∀ (j : Nat) (y : OD), ρ[j]? = some (Sl.ow y) → ad j ≠ a := fun j y h z => by
      obtain ⟨e1, _⟩ := h1 j y h
      obtain ⟨f1, _, _, u, f4, _⟩ := h10 j y h
      rw [e1] at f1
      have : ad j = ad0 j := by simpa using f1
      rw [← this, z, n] at f4
      cases f4
    refine ⟨fun j => if j = i then a else ad j, fun j y hj => ?_, fun j l y z hj hl he => ?_⟩
    · by_cases q : j = i
      · subst q
        rw [List.getElem?_set_self hi] at hj
        cases hj
        simp only [if_true]
        exact ⟨List.getElem?_set_self (by rw [o.len]; exact hi), ng, nb, h, e, w⟩
      · have q' : i ≠ j := fun z => q z.symm
        obtain ⟨e1, e2⟩ := h1 j y (k j y q' hj)
        simp only [if_neg q]
        exact ⟨by rw [List.getElem?_set_ne q']; exact e1, e2⟩
    · by_cases qj : j = i
      · by_cases ql : l = i
        · rw [qj, ql]
        · exfalso
          simp only [if_pos qj, if_neg ql] at he
          exact na l z (k l z (fun w => ql w.symm) hl) he.symm
      · by_cases ql : l = i
        · exfalso
          simp only [if_neg qj, if_pos ql] at he
          exact na j y (k j y (fun w => qj w.symm) hj) he
        · simp only [if_neg qj, if_neg ql] at he
          exact h2 j l y z (k j y (fun w => qj w.symm) hj) (k l z (fun w => ql w.symm) hl) he
  mine := fun p dx C fs e' h' => by
    by_cases q : i = 0
    · subst q
      rw [List.getElem?_set_self hi] at h'
      rcases hm with hm | hm
      · exact absurd rfl hm
      · cases h'
        cases hm
    · rw [List.getElem?_set_ne q] at h' ⊢
      exact o.mine p dx C fs e' h'
  marks := fun j p y e' h' k' => by
    by_cases q : i = j
    · subst q
      rw [List.getElem?_set_self hi] at h'
      cases h'
      rw [hk] at k'
      cases k'
    · rw [List.getElem?_set_ne q] at h' ⊢
      exact o.marks j p y e' h' k'
theorem ownAt_ins {h' : HO} {C : Addr} {fs : List (Str × D)} (w : OwnAt K G h' (.ins C fs)) : ∃ dx vs, h' = .ins C dx vs := by
  cases h' with
  | ins C' dx vs => obtain ⟨rfl, _⟩ := w; exact ⟨dx, vs, rfl⟩
  | _ => exact w.elim
theorem mineAt (o : Ok K b G H σ ρ) {x : OD} {a p dx C : Addr} {h h' : HO} {fs : List (Str × D)} {G1 H1 : Hp} (hx : ρ[0]? = some (Sl.ow x)) (e1 : σ[0]? = some (some (.ref a))) (e4 : H a = some h) (e5 : OwnAt K G h x)
    (hd : ∀ C dx vs, h' = .ins C dx vs → ∃ vs', h = .ins C dx vs') (ha : H1 a = some h') (w : OwnAt K G1 h' (.ins C fs)) (e : b.me = some (p, dx)) : σ[0]? = some (some (.ref p)) ∧ ∃ vs, H1 p = some (.ins C dx vs) := by
  obtain ⟨dx', vs', rfl⟩ := ownAt_ins w
  obtain ⟨vs, rfl⟩ := hd _ _ _ rfl
  cases x with
  | ins C2 fs2 =>
    obtain ⟨rfl, _⟩ := e5
    obtain ⟨k1, ws, k2⟩ := o.mine p dx _ _ e hx
    rw [k1] at e1
    have ep : p = a := by simpa using e1
    subst ep
    rw [e4] at k2
    cases k2
    exact ⟨k1, vs', ha⟩
  | _ => exact e5.elim
/-- the object of a slot changes -/
theorem Ok.own (o : Ok K b G H σ ρ) {i : Nat} {x : OD} (hx : ρ[i]? = some (Sl.ow x)) : ∃ a h, σ[i]? = some (some (.ref a)) ∧ G a = none ∧ b.B a = none ∧ H a = some h ∧ OwnAt K G h x ∧
    (∀ h' y, OwnAt K G h' y → (∀ C dx vs, h' = .ins C dx vs → ∃ vs', h = .ins C dx vs') → (y.mk = true → x.mk = true) → Ok K b G (upd H a h') σ (ρ.set i (Sl.ow y))) ∧
    (∀ G1 H1 h' y, (∀ C dx vs, h' = .ins C dx vs → ∃ vs', h = .ins C dx vs') → (y.mk = true → x.mk = true) → Same G G1 → (∀ z, G z = none → G1 z ≠ none → H z = none) → Same G1 H1 → (∀ z u, z ≠ a → H z = some u → H1 z = some u) → H1 a = some h' → OwnAt K G1 h' y → Ok K b G1 H1 σ (ρ.set i (Sl.ow y))) := by
  obtain ⟨ad, h1, h2⟩ := o.ow
  obtain ⟨e1, e2, e3, h, e4, e5⟩ := h1 i x hx
  have hi : i < ρ.length := by
    by_cases z : i < ρ.length
    · exact z
    · rw [List.getElem?_eq_none (by simpa using z)] at hx; cases hx
  have gen : ∀ G1 H1 h' y, (∀ C dx vs, h' = .ins C dx vs → ∃ vs', h = .ins C dx vs') → (y.mk = true → x.mk = true) → Same G G1 → (∀ z, G z = none → G1 z ≠ none → H z = none) → Same G1 H1 → (∀ z u, z ≠ ad i → H z = some u → H1 z = some u) → H1 (ad i) = some h' → OwnAt K G1 h' y → Ok K b G1 H1 σ (ρ.set i (Sl.ow y)) :=
    fun G1 H1 h' y hd hmk gg fr gh hh ha w => {
      g0 := o.g0.trans gg
      fr := fun a h k => by
        by_cases q : G a = none
        · exact o.bh.free (fr a q k)
        · exact o.fr a h q
      gh := gh
      bh := fun c u hc => hh c u (fun z => by rw [z, e3] at hc; cases hc) (o.bh c u hc)
      len := by simp [o.len]
      im := fun j e hj => by
        by_cases q : i = j
        · subst q
          rw [List.getElem?_set_self hi] at hj; cases hj
        · rw [List.getElem?_set_ne q] at hj
          obtain ⟨u, f1, f2⟩ := o.im j e hj
          exact ⟨u, f1, Rep.mono gg e f2⟩
      ow := by
        have k : ∀ (j : Nat) (z : OD), i ≠ j → (ρ.set i (Sl.ow y))[j]? = some (Sl.ow z) → ρ[j]? = some (Sl.ow z) := fun j z q hj => by
          rw [List.getElem?_set_ne q] at hj
          exact hj
        refine ⟨ad, fun j z hj => ?_, fun j l z u hj hl he => ?_⟩
        · by_cases q : i = j
          · subst q
            rw [List.getElem?_set_self hi] at hj
            cases hj
            refine ⟨e1, ?_, e3, h', ha, w⟩
            by_cases q2 : G1 (ad i) = none
            · exact q2
            · have := fr _ e2 q2
              rw [e4] at this
              cases this
          · have hj' := k j z q hj
            obtain ⟨f1, f2, f3, u, f4, f5⟩ := h1 j z hj'
            refine ⟨f1, ?_, f3, u, hh _ _ (fun w => q (h2 i j x z hx hj' w.symm)) f4, OwnAt.mono gg f5⟩
            by_cases q2 : G1 (ad j) = none
            · exact q2
            · have := fr _ f2 q2
              rw [f4] at this
              cases this
        · have g : ∀ (j : Nat) (z : OD), (ρ.set i (Sl.ow y))[j]? = some (Sl.ow z) → ∃ z', ρ[j]? = some (Sl.ow z') := fun j z hj => by
            by_cases q : i = j
            · subst q
              exact ⟨x, hx⟩
            · exact ⟨z, k j z q hj⟩
          obtain ⟨z', hj'⟩ := g j z hj
          obtain ⟨u', hl'⟩ := g l u hl
          exact h2 j l z' u' hj' hl' he
      mine := fun p dx C fs e h' => by
        by_cases q : i = 0
        · subst q
          rw [List.getElem?_set_self hi] at h'
          have ey : y = .ins C fs := by simpa using h'
          subst ey
          exact mineAt o hx e1 e4 e5 hd ha w e
        · rw [List.getElem?_set_ne q] at h'
          obtain ⟨k1, vs, k2⟩ := o.mine p dx C fs e h'
          refine ⟨k1, vs, hh _ _ (fun z => ?_) k2⟩
          obtain ⟨f1, _⟩ := h1 0 _ h'
          rw [k1] at f1
          have e0 : p = ad 0 := by simpa using f1
          exact q (h2 i 0 _ _ hx h' (by rw [← e0]; exact z.symm))
      marks := fun j p z e h' k' => by
        by_cases q : i = j
        · subst q
          rw [List.getElem?_set_self hi] at h'
          have ey : y = z := by simpa using h'
          subst ey
          exact o.marks i p x e hx (hmk k')
        · rw [List.getElem?_set_ne q] at h'
          exact o.marks j p z e h' k' }
  refine ⟨ad i, h, e1, e2, e3, e4, e5, fun h' y w hd hmk => gen G (upd H (ad i) h') h' y hd hmk (Same.refl _) (fun z hz k => absurd hz k) (fun c u hc => ?_) (fun z u hz hu => ?_) upd_same w, gen⟩
  · rw [upd_ne (fun z => by rw [z, e2] at hc; cases hc)]
    exact o.gh c u hc
  · rw [upd_ne hz]
    exact hu
/-- the datum of an object that is let be -/
def OD.dat : OD → Option D
  | .lst ds => some (.lst ds)
  | .dct kvs => some (.dct (kvs.map (·.1)) (kvs.map (·.2)))
  | .dtt kvs => some (.dtt (kvs.map (·.1)) (kvs.map (·.2)))
  | .ins C fs => some (.ins C fs)
  | _ => none
theorem OwnAt.rep {x : OD} {d : D} {h : HO} {a : Addr} (w : OwnAt K G h x) (hd : x.dat = some d) (e : G a = some h) : Rep K G (.ref a) d := by
  cases x with
  | lst ds => cases hd; cases h with | lst vs => exact .lst (SqL.of e) w | _ => exact w.elim
  | dct kvs => cases hd; cases h with | dK vs => exact .dct e w.1 w.2 | _ => exact w.elim
  | dtt kvs => cases hd; cases h with | dT vs => exact .dtt e w.1 w.2 | _ => exact w.elim
  | ins C fs => cases hd; cases h with | ins C' dx vs => obtain ⟨rfl, w⟩ := w; exact .ins e w | _ => exact w.elim
  | mls ds => cases hd
  | mdc ds => cases hd
/-- the object of a slot is let be: a datum from now on -/
theorem Ok.freezeO (o : Ok K b G H σ ρ) {i : Nat} {x : OD} {d : D} (hx : ρ[i]? = some (Sl.ow x)) (hd : x.dat = some d) : ∃ G', Ok K b G' H σ (ρ.set i (Sl.im d)) := by
  obtain ⟨ad, h1, h2⟩ := o.ow
  obtain ⟨e1, e2, e3, h, e4, e5⟩ := h1 i _ hx
  have hi : i < ρ.length := by
    by_cases z : i < ρ.length
    · exact z
    · rw [List.getElem?_eq_none (by simpa using z)] at hx; cases hx
  have s1 : Same G (upd G (ad i) h) := fun c u hc => by
    rw [upd_ne (ne_of_none hc e2)]
    exact hc
  refine ⟨upd G (ad i) h, {
    g0 := o.g0.trans s1
    fr := fun a ha k => by
      by_cases q : a = ad i
      · rw [q]; exact e3
      · rw [upd_ne q] at k
        exact o.fr a ha k
    gh := fun c u hc => by
      by_cases q : c = ad i
      · rw [q, upd_same] at hc
        rw [q, e4]
        exact hc
      · rw [upd_ne q] at hc
        exact o.gh c u hc
    bh := o.bh
    len := by simp [o.len]
    im := fun j e hj => by
      by_cases q : i = j
      · subst q
        rw [List.getElem?_set_self hi] at hj
        cases hj
        exact ⟨_, e1, (OwnAt.mono s1 e5).rep hd upd_same⟩
      · rw [List.getElem?_set_ne q] at hj
        obtain ⟨u, f1, f2⟩ := o.im j e hj
        exact ⟨u, f1, Rep.mono s1 e f2⟩
    ow := by
      have k : ∀ (j : Nat) (x : OD), (ρ.set i (Sl.im d))[j]? = some (Sl.ow x) → i ≠ j ∧ ρ[j]? = some (Sl.ow x) := fun j x h => by
        by_cases q : i = j
        · subst q
          rw [List.getElem?_set_self hi] at h; cases h
        · rw [List.getElem?_set_ne q] at h
          exact ⟨q, h⟩
      refine ⟨ad, fun j x hj => ?_, fun j l x y hj hl => h2 j l x y (k j x hj).2 (k l y hl).2⟩
      obtain ⟨q, h'⟩ := k j x hj
      obtain ⟨f1, f2, f3, u, f4, f5⟩ := h1 j x h'
      exact ⟨f1, by rw [upd_ne (fun z => q (h2 i j _ _ hx h' z.symm))]; exact f2, f3, u, f4, OwnAt.mono s1 f5⟩
    mine := fun p dx C fs e h => by
      by_cases q : i = 0
      · subst q
        rw [List.getElem?_set_self hi] at h; cases h
      · rw [List.getElem?_set_ne q] at h
        exact o.mine p dx C fs e h
    marks := fun j p y e h k' => by
      by_cases q : i = j
      · subst q
        rw [List.getElem?_set_self hi] at h; cases h
      · rw [List.getElem?_set_ne q] at h
        exact o.marks j p y e h k' }⟩
theorem Ok.freeze (o : Ok K b G H σ ρ) {i : Nat} {ds : List D} (hx : ρ[i]? = some (Sl.ow (.lst ds))) : ∃ G', Ok K b G' H σ (ρ.set i (Sl.im (.lst ds))) := o.freezeO hx rfl
end
end DL

set_option maxRecDepth 100000
set_option maxHeartbeats 4000000
/-! The data layer, part b: what readings of expressions yield, on data. -/
namespace DL
open PySem L2

/-- what a value bears: data that stay; a list that can be read just now (its items stay); a new list; a new instance -/
inductive Vd where
  | st (d : D)
  | ls (ds : List D)
  | fr (ds : List D)
  | fi (C : Addr) (fs : List (Str × D))
  | li (C : Addr) (fs : List (Str × D))
  /-- dicts that can be read just now; new dicts -/
  | dl (kvs : List (Key × D))
  | fd (kvs : List (Key × D))
  | dlt (kvs : List (List Key × D))
  | fdt (kvs : List (List Key × D))
def VR (K : Frag) (H0 G H : Hp) (v : V) : Vd → Prop
  | .st d => Rep K G v d
  | .ls ds => ∃ a vs, v = .ref a ∧ H a = some (.lst vs) ∧ Reps K G vs ds
  | .fr ds => ∃ a vs, v = .ref a ∧ H0 a = none ∧ G a = none ∧ H a = some (.lst vs) ∧ Reps K G vs ds
  | .fi C fs => ∃ a dx vs, v = .ref a ∧ H0 a = none ∧ G a = none ∧ H a = some (.ins C dx vs) ∧ RepF K G vs fs
  | .li C fs => ∃ a dx vs, v = .ref a ∧ H a = some (.ins C dx vs) ∧ RepF K G vs fs
  | .dl kvs => ∃ a vs, v = .ref a ∧ H a = some (.dK vs) ∧ RepP K G vs kvs
  | .fd kvs => ∃ a vs, v = .ref a ∧ H0 a = none ∧ G a = none ∧ H a = some (.dK vs) ∧ RepP K G vs kvs
  | .dlt kvs => ∃ a vs, v = .ref a ∧ H a = some (.dT vs) ∧ RepP K G vs kvs
  | .fdt kvs => ∃ a vs, v = .ref a ∧ H0 a = none ∧ G a = none ∧ H a = some (.dT vs) ∧ RepP K G vs kvs
theorem VR.gr {K : Frag} {H0 G H G' H' : Hp} {v : V} {x : Vd} (g : Gr G H G' H') (h : VR K H0 G H v x) : VR K H0 G' H' v x := by
  cases x with
  | st d => exact Rep.mono g.gg d h
  | ls ds => obtain ⟨a, vs, e, h1, h2⟩ := h; exact ⟨a, vs, e, g.hh _ _ h1, Reps.mono g.gg ds h2⟩
  | li C fs => obtain ⟨a, dx, vs, e, h1, h2⟩ := h; exact ⟨a, dx, vs, e, g.hh _ _ h1, RepF.mono g.gg fs h2⟩
  | fr ds =>
    obtain ⟨a, vs, e, h0, hg, h1, h2⟩ := h
    refine ⟨a, vs, e, h0, ?_, g.hh _ _ h1, Reps.mono g.gg ds h2⟩
    by_cases q : G' a = none
    · exact q
    · have := g.fr a hg q
      rw [h1] at this; cases this
  | fi C fs =>
    obtain ⟨a, dx, vs, e, h0, hg, h1, h2⟩ := h
    refine ⟨a, dx, vs, e, h0, ?_, g.hh _ _ h1, RepF.mono g.gg fs h2⟩
    by_cases q : G' a = none
    · exact q
    · have := g.fr a hg q
      rw [h1] at this; cases this
  | dl kvs => obtain ⟨a, vs, e, h1, h2⟩ := h; exact ⟨a, vs, e, g.hh _ _ h1, RepP.mono g.gg h2⟩
  | dlt kvs => obtain ⟨a, vs, e, h1, h2⟩ := h; exact ⟨a, vs, e, g.hh _ _ h1, RepP.mono g.gg h2⟩
  | fd kvs =>
    obtain ⟨a, vs, e, h0, hg, h1, h2⟩ := h
    refine ⟨a, vs, e, h0, ?_, g.hh _ _ h1, RepP.mono g.gg h2⟩
    by_cases q : G' a = none
    · exact q
    · have := g.fr a hg q
      rw [h1] at this; cases this
  | fdt kvs =>
    obtain ⟨a, vs, e, h0, hg, h1, h2⟩ := h
    refine ⟨a, vs, e, h0, ?_, g.hh _ _ h1, RepP.mono g.gg h2⟩
    by_cases q : G' a = none
    · exact q
    · have := g.fr a hg q
      rw [h1] at this; cases this
theorem VR.down {K : Frag} {H0 H1 G H : Hp} {v : V} {x : Vd} (s : Same H0 H1) (h : VR K H1 G H v x) : VR K H0 G H v x := by
  cases x with
  | st d => exact h
  | ls ds => exact h
  | li C fs => exact h
  | fr ds => obtain ⟨a, vs, e, h0, r⟩ := h; exact ⟨a, vs, e, s.free h0, r⟩
  | fi C fs => obtain ⟨a, dx, vs, e, h0, r⟩ := h; exact ⟨a, dx, vs, e, s.free h0, r⟩
  | dl kvs => exact h
  | dlt kvs => exact h
  | fd kvs => obtain ⟨a, vs, e, h0, r⟩ := h; exact ⟨a, vs, e, s.free h0, r⟩
  | fdt kvs => obtain ⟨a, vs, e, h0, r⟩ := h; exact ⟨a, vs, e, s.free h0, r⟩

/-- as data that stay -/
inductive Stb : Vd → D → Prop
  | st {d : D} : Stb (.st d) d
  | fr {ds : List D} : Stb (.fr ds) (.lst ds)
  | fi {C : Addr} {fs : List (Str × D)} : Stb (.fi C fs) (.ins C fs)
  | fd {kvs : List (Key × D)} : Stb (.fd kvs) (.dct (kvs.map (·.1)) (kvs.map (·.2)))
  | fdt {kvs : List (List Key × D)} : Stb (.fdt kvs) (.dtt (kvs.map (·.1)) (kvs.map (·.2)))
/-- as a list -/
inductive Lsd : Vd → List D → Prop
  | st {ds : List D} : Lsd (.st (.lst ds)) ds
  | ls {ds : List D} : Lsd (.ls ds) ds
  | fr {ds : List D} : Lsd (.fr ds) ds
/-- as data to be read now -/
inductive Rdd : Vd → D → Prop
  | st {d : D} : Rdd (.st d) d
  | ls {ds : List D} : Rdd (.ls ds) (.lst ds)
  | fr {ds : List D} : Rdd (.fr ds) (.lst ds)
section
variable {K : Frag} {H0 G H G' H' : Hp} {v : V} {x : Vd} {d : D} {ds : List D}
theorem Gr.put (g : Gr G H G' H') {a : Addr} {o : HO} (h0 : H a = none) (hg : G' a = none) (hh : H' a = some o) : Gr G H (upd G' a o) H' ∧ Gr G' H' G' H' ∧ Same G' (upd G' a o) ∧ Same (upd G' a o) H' := by
  have s1 : Same G' (upd G' a o) := fun c u hc => by
    rw [upd_ne (ne_of_none hc hg)]
    exact hc
  have s2 : Same (upd G' a o) H' := fun c u hc => by
    by_cases q : c = a
    · rw [q, upd_same] at hc
      rw [q, hh]
      exact hc
    · rw [upd_ne q] at hc
      exact g.gh c u hc
  refine ⟨⟨g.hh, g.gg.trans s1, fun c hc k => ?_, s2⟩, Gr.refl g.gh, s1, s2⟩
  by_cases q : c = a
  · rw [q]
    exact h0
  · rw [upd_ne q] at k
    exact g.fr c hc k
theorem VR.stb (g : Gr G H G' H') (r : VR K H G' H' v x) (s : Stb x d) : ∃ G2, Gr G H G2 H' ∧ Same G' G2 ∧ Rep K G2 v d := by
  cases s with
  | st => exact ⟨G', g, Same.refl _, r⟩
  | fr =>
    obtain ⟨a, vs, rfl, h0, hg, hh, hr⟩ := r
    obtain ⟨g1, _, s1, _⟩ := g.put h0 hg hh
    exact ⟨_, g1, s1, .lst (SqL.of upd_same) (Reps.mono s1 _ hr)⟩
  | fi =>
    obtain ⟨a, dx, vs, rfl, h0, hg, hh, hr⟩ := r
    obtain ⟨g1, _, s1, _⟩ := g.put h0 hg hh
    exact ⟨_, g1, s1, .ins upd_same (RepF.mono s1 _ hr)⟩
  | fd =>
    obtain ⟨a, vs, rfl, h0, hg, hh, hr⟩ := r
    obtain ⟨g1, _, s1, _⟩ := g.put h0 hg hh
    exact ⟨_, g1, s1, .dct upd_same hr.1 (Reps.mono s1 _ hr.2)⟩
  | fdt =>
    obtain ⟨a, vs, rfl, h0, hg, hh, hr⟩ := r
    obtain ⟨g1, _, s1, _⟩ := g.put h0 hg hh
    exact ⟨_, g1, s1, .dtt upd_same hr.1 (Reps.mono s1 _ hr.2)⟩
theorem VR.rdd (g : Same G' H') (r : VR K H G' H' v x) (s : Rdd x d) : Rep K H' v d := by
  cases s with
  | st => exact Rep.mono g _ r
  | ls => obtain ⟨a, vs, rfl, hh, hr⟩ := r; exact .lst (SqL.of hh) (Reps.mono g _ hr)
  | fr => obtain ⟨a, vs, rfl, _, _, hh, hr⟩ := r; exact .lst (SqL.of hh) (Reps.mono g _ hr)
theorem VR.lsd (g : Same G' H') (r : VR K H G' H' v x) (s : Lsd x ds) : ∃ a vs, v = .ref a ∧ SqL K H' a vs ∧ Reps K G' vs ds := by
  cases s with
  | st => cases r with | lst a b => exact ⟨_, _, rfl, sql_mono g a, b⟩
  | ls => obtain ⟨a, vs, rfl, hh, hr⟩ := r; exact ⟨_, _, rfl, SqL.of hh, hr⟩
  | fr => obtain ⟨a, vs, rfl, _, _, hh, hr⟩ := r; exact ⟨_, _, rfl, SqL.of hh, hr⟩
end

/-- the reading t yields x, whatever the heap, where the slots hold ρ -/
def EV (K : Frag) (t : TE) (ρ : List Sl) (x : Vd) : Prop := ∀ (b : Bs) (G H : Hp) (σ : St) (Q : VK), Ok K b G H σ ρ → (∀ v G' H', Gr G H G' H' → VR K H G' H' v x → Q v H') → t σ H Q
def TV (K : Frag) (t : TT) (ρ : List Sl) (c : Bool) : Prop := ∀ (b : Bs) (G H : Hp) (σ : St) (Q : Bool → Hp → Prop), Ok K b G H σ ρ → (∀ G' H', Gr G H G' H' → Q c H') → t σ H Q
inductive VRs (K : Frag) (H0 G H : Hp) : List V → List Vd → Prop
  | nil : VRs K H0 G H [] []
  | cons {v : V} {vs : List V} {x : Vd} {xs : List Vd} : VR K H0 G H v x → VRs K H0 G H vs xs → VRs K H0 G H (v :: vs) (x :: xs)
def AV (K : Frag) (t : TA) (ρ : List Sl) (xs : List Vd) : Prop := ∀ (b : Bs) (G H : Hp) (σ : St) (Q : List V → Hp → Prop), Ok K b G H σ ρ → (∀ vs G' H', Gr G H G' H' → VRs K H G' H' vs xs → Q vs H') → t σ H Q
inductive Stbs : List Vd → List D → Prop
  | nil : Stbs [] []
  | cons {x : Vd} {xs : List Vd} {d : D} {ds : List D} : Stb x d → Stbs xs ds → Stbs (x :: xs) (d :: ds)

section
variable {K : Frag} {ρ : List Sl} {t ta tb tc : TE} {x y z : Vd} {d e : D}
theorem ev_var {i : Nat} (h : ρ[i]? = some (Sl.im d)) : EV K (tVar i) ρ (.st d) := fun b G H σ Q o q => by
  obtain ⟨v, h1, h2⟩ := o.im i d h
  exact ⟨v, h1, q v G H o.refl h2⟩
theorem ev_own {i : Nat} {ds : List D} (h : ρ[i]? = some (Sl.ow (.lst ds))) : EV K (tVar i) ρ (.ls ds) := fun b G H σ Q o q => by
  obtain ⟨a, hh, h1, h2, h3, h4, h5, _⟩ := o.own h
  cases hh with
  | lst vs => exact ⟨_, h1, q _ G H o.refl ⟨a, vs, rfl, h4, h5⟩⟩
  | _ => exact h5.elim
theorem ev_ownI {i : Nat} {C : Addr} {fs : List (Str × D)} (h : ρ[i]? = some (Sl.ow (.ins C fs))) : EV K (tVar i) ρ (.li C fs) := fun b G H σ Q o q => by
  obtain ⟨a, hh, h1, h2, h3, h4, h5, _⟩ := o.own h
  cases hh with
  | ins C' dx vs =>
    obtain ⟨rfl, h6⟩ := h5
    exact ⟨_, h1, q _ G H o.refl ⟨a, dx, vs, rfl, h4, h6⟩⟩
  | _ => exact h5.elim
theorem ev_int {i : Int} : EV K (tC (.int i)) ρ (.st (.int i)) := fun b G H σ Q o q => q _ G H o.refl (.int i)
theorem ev_bl {i : Bool} : EV K (tC (.bl i)) ρ (.st (.bl i)) := fun b G H σ Q o q => q _ G H o.refl (.bl i)
theorem ev_str {i : Str} : EV K (tC (.str i)) ρ (.st (.str i)) := fun b G H σ Q o q => q _ G H o.refl (.str i)
theorem ev_non : EV K (tC .non) ρ (.st .non) := fun b G H σ Q o q => q _ G H o.refl .non
theorem ev_is (h : EV K t ρ x) (e : x = y) : EV K t ρ y := by rw [← e]; exact h
/-- as data that stay -/
theorem ev_stb (h : EV K t ρ x) (s : Stb x d) : EV K t ρ (.st d) := fun b G H σ Q o q => h b G H σ Q o fun v G' H' g r => by
  obtain ⟨G2, g2, _, r2⟩ := r.stb g s
  exact q v G2 H' g2 r2

/-- two operands, by a relation on what they bear -/
def OpD (K : Frag) (r : R2) (x y z : Vd) : Prop := ∀ (H0 G H : Hp) (v u : V) (Q : VK), Same H0 H → Same G H → VR K H0 G H v x → VR K H0 G H u y → (∀ w G' H', Gr G H G' H' → VR K H G' H' w z → Q w H') → r v u H Q
theorem ev_op {r : R2} (ha : EV K ta ρ x) (hb : EV K tb ρ y) (h : OpD K r x y z) : EV K (tOp r ta tb) ρ z := fun b G H σ Q o q =>
  ha b G H σ _ o fun v G1 H1 g1 r1 => hb b G1 H1 σ _ (o.gr g1) fun u G2 H2 g2 r2 =>
    h H G2 H2 v u Q (g1.hh.trans g2.hh) g2.gh (r1.gr g2) (r2.down g1.hh) fun w G3 H3 g3 r3 => q w G3 H3 ((g1.trans g2).trans g3) (r3.down (g1.hh.trans g2.hh))
/-- one operand -/
def UnD (K : Frag) (r : V → Hp → VK → Prop) (x z : Vd) : Prop := ∀ (H0 G H : Hp) (v : V) (Q : VK), Same H0 H → Same G H → VR K H0 G H v x → (∀ w G' H', Gr G H G' H' → VR K H G' H' w z → Q w H') → r v H Q
theorem ev_un {r : V → Hp → VK → Prop} (ha : EV K ta ρ x) (h : UnD K r x z) : EV K (tUn r ta) ρ z := fun b G H σ Q o q =>
  ha b G H σ _ o fun v G1 H1 g1 r1 => h H G1 H1 v Q g1.hh g1.gh r1 fun w G3 H3 g3 r3 => q w G3 H3 (g1.trans g3) (r3.down g1.hh)

theorem OpD.or1 {r r' : R2} (h : OpD K r x y z) : OpD K (fun a b H Q => r a b H Q ∨ r' a b H Q) x y z := fun H0 G H v u Q a b c d e => .inl (h H0 G H v u Q a b c d e)
theorem OpD.or2 {r r' : R2} (h : OpD K r' x y z) : OpD K (fun a b H Q => r a b H Q ∨ r' a b H Q) x y z := fun H0 G H v u Q a b c d e => .inr (h H0 G H v u Q a b c d e)
theorem rep_int {G : Hp} {v : V} {i : Int} (h : Rep K G v (.int i)) : v = .int i := by cases h; rfl
theorem rep_str {G : Hp} {v : V} {i : Str} (h : Rep K G v (.str i)) : v = .str i := by cases h; rfl
theorem rep_bl {G : Hp} {v : V} {i : Bool} (h : Rep K G v (.bl i)) : v = .bl i := by cases h; rfl
theorem rep_non {G : Hp} {v : V} (h : Rep K G v .non) : v = .non := by cases h; rfl
theorem od_I0 {g : Int → Int → V} {f : Int → Int → D} {i j : Int} (hg : ∀ G i j, Rep K G (g i j) (f i j)) : OpD K (rI0 g) (.st (.int i)) (.st (.int j)) (.st (f i j)) := fun H0 G H v u Q _ s a b q => by
  obtain rfl := rep_int a
  obtain rfl := rep_int b
  exact ⟨i, j, rfl, rfl, q _ G H (Gr.refl s) (hg G i j)⟩
theorem od_I {C : Int → Int → Prop} {g : Int → Int → V} {f : Int → Int → D} {i j : Int} (hg : ∀ G i j, Rep K G (g i j) (f i j)) (hc : C i j) : OpD K (rI C g) (.st (.int i)) (.st (.int j)) (.st (f i j)) := fun H0 G H v u Q _ s a b q => by
  obtain rfl := rep_int a
  obtain rfl := rep_int b
  exact ⟨i, j, rfl, rfl, hc, q _ G H (Gr.refl s) (hg G i j)⟩

/-! ### + -/
/-- list + list, any two -/
def rCatLL (K : Frag) : R2 := fun x y H Q => ∃ l b xs zs, x = .ref l ∧ y = .ref b ∧ SqL K H l xs ∧ SqL K H b zs ∧ xs.length + zs.length ≤ sizeLine ∧ ∀ p, H p = none → Q (.ref p) (upd H p (.lst (xs ++ zs)))
theorem op_catLL {X : Cx} : OpR X (binaryOp .Add) (rCatLL X.K) := by
  intro pins s σ H x y v u Q I rx ry h
  obtain ⟨l, b, xs, zs, rfl, rfl, hH, hB, hz, q⟩ := h
  cases rx
  cases ry
  obtain ⟨its, r, ⟨⟨c1, d1, t1, s1⟩, n1, e1, rfl, rfl, rfl⟩, z1⟩ := I.list hH
  obtain ⟨its2, r2, ⟨⟨c2, d2, t2, s2⟩, n2, e2, rfl, rfl, rfl⟩, z2⟩ := I.list hB
  have h1 := r.length
  have h2 := r2.length
  have ea : its.toArray ++ its2.toArray = (its ++ its2).toArray := by simp
  refine PySem.concat_meets ⟨_, e1, rfl⟩ ⟨_, e2, rfl⟩ PySem.noFill_list_add PySem.seq_list_add PySem.F.slot_list_add PySem.F.entry_list_add (PySem.F.args_list_add_2 _ _) (PyProof.Rows.list_addW l b its.toArray its2.toArray n1 n2 _ _ s1 s2 (by rw [List.size_toArray, List.size_toArray]; omega)) ⟨e1, e2, ?_⟩
  rw [ea]
  exact ⟨.ref _, _, I.lnew (t' := s.toks) (r.append r2) (by rw [List.length_append]; omega), rfl, q _ I.fresh⟩
def rAddU (K : Frag) : R2 := fun x y H Q => rI0 (fun i j => .int (i + j)) x y H Q ∨ rCatA K x y H Q ∨ rCatLL K x y H Q ∨ (∃ i j, x = .str i ∧ y = .str j ∧ i.length + j.length ≤ sizeLine ∧ Q (.str (i ++ j)) H)
theorem u_add {X : Cx} : OpR X (binaryOp .Add) (rAddU X.K) := op_add.or (op_catA.or (op_catLL.or op_add_str))
theorem add_int {i j : Int} : OpD K (rAddU K) (.st (.int i)) (.st (.int j)) (.st (.int (i + j))) := (od_I0 (f := fun i j => .int (i + j)) fun _ _ _ => .int _).or1
theorem add_str {i j : Str} (h : i.length + j.length ≤ sizeLine) : OpD K (rAddU K) (.st (.str i)) (.st (.str j)) (.st (.str (i ++ j))) := fun H0 G H v u Q _ s a b q => by
  obtain rfl := rep_str a
  obtain rfl := rep_str b
  exact .inr (.inr (.inr ⟨i, j, rfl, rfl, h, q _ G H (Gr.refl s) (.str _)⟩))
theorem Gr.new {G H : Hp} {p : Addr} (s : Same G H) (o : HO) (h : H p = none) : Gr G H (upd G p o) (upd H p o) ∧ Same G (upd G p o) := by
  have hg : G p = none := s.free h
  have s1 : Same G (upd G p o) := fun c u hc => by
    rw [upd_ne (ne_of_none hc hg)]
    exact hc
  refine ⟨⟨fun c u hc => ?_, s1, fun c hc k => ?_, fun c u hc => ?_⟩, s1⟩
  · rw [upd_ne (ne_of_none hc h)]
    exact hc
  · by_cases q : c = p
    · rw [q]
      exact h
    · rw [upd_ne q] at k
      exact absurd hc k
  · by_cases q : c = p
    · rw [q, upd_same] at hc
      rw [q, upd_same]
      exact hc
    · rw [upd_ne q] at hc
      rw [upd_ne q]
      exact s c u hc
theorem Gr.newO {G H : Hp} {p : Addr} (s : Same G H) (o : HO) (h : H p = none) : Gr G H G (upd H p o) ∧ G p = none :=
  ⟨⟨fun c u hc => by
      rw [upd_ne (ne_of_none hc h)]
      exact hc, Same.refl _, fun c hc k => absurd hc k, fun c u hc => by
      rw [upd_ne (ne_of_none (s c u hc) h)]
      exact s c u hc⟩, s.free h⟩
theorem add_tup {xs ys : List D} (h : xs.length + ys.length ≤ sizeLine) : OpD K (rAddU K) (.st (.tup xs)) (.st (.tup ys)) (.st (.tup (xs ++ ys))) := fun H0 G H v u Q _ s a b q => by
  cases a with
  | @tup a vs _ ha ra =>
    cases b with
    | @tup c ws _ hb rb =>
      have l1 := ra.length
      have l2 := rb.length
      refine .inr (.inl ⟨a, c, vs, ws, rfl, rfl, sqt_mono s ha, sqt_mono s hb, by omega, fun e => ?_, fun e e2 => ?_, fun e e2 p hp => ?_⟩)
      · subst e
        cases ra
        exact q _ G H (Gr.refl s) (.tup hb rb)
      · subst e2
        cases rb
        rw [List.append_nil] at q
        exact q _ G H (Gr.refl s) (.tup ha ra)
      · obtain ⟨g, s1⟩ := Gr.new s (.tup (vs ++ ws)) hp
        exact q _ _ _ g (.tup (SqT.of upd_same) (Reps.mono s1 _ (ra.append rb)))
theorem lsd_direct {H0 G H : Hp} {v : V} {ds : List D} (s : Same G H) (r : VR K H0 G H v x) (l : Lsd x ds) (hf : ∀ d, x = .st d → ∃ a vs, v = .ref a ∧ G a = some (.lst vs) ∧ Reps K G vs ds) : ∃ a vs, v = .ref a ∧ H a = some (.lst vs) ∧ Reps K G vs ds := by
  cases l with
  | st =>
    obtain ⟨a, vs, e, h1, h2⟩ := hf _ rfl
    exact ⟨a, vs, e, s _ _ h1, h2⟩
  | ls => exact r
  | fr => obtain ⟨a, vs, e, _, _, h1, h2⟩ := r; exact ⟨a, vs, e, h1, h2⟩

/-! ### - * // % ** -/
theorem sub_int {i j : Int} : OpD K (rI0 fun i j => .int (i - j)) (.st (.int i)) (.st (.int j)) (.st (.int (i - j))) := od_I0 (f := fun i j => .int (i - j)) fun _ _ _ => .int _
theorem mul_int {i j : Int} (h : CMulW i j) : OpD K (rI CMulW fun i j => .int (i * j)) (.st (.int i)) (.st (.int j)) (.st (.int (i * j))) := od_I (f := fun i j => .int (i * j)) (fun _ _ _ => .int _) h
theorem fdiv_int {i j : Int} (h : CDivW i j) : OpD K (rI CDivW fun i j => .int (i / j)) (.st (.int i)) (.st (.int j)) (.st (.int (i / j))) := od_I (f := fun i j => .int (i / j)) (fun _ _ _ => .int _) h
theorem mod_int {i j : Int} (h : 0 < j) : OpD K (rI (fun _ j => 0 < j) fun i j => .int (i % j)) (.st (.int i)) (.st (.int j)) (.st (.int (i % j))) := od_I (f := fun i j => .int (i % j)) (fun _ _ _ => .int _) h
theorem pow_int {i j : Int} (h : CPow i j) : OpD K (rI CPow fun i j => .int (i ^ j.toNat)) (.st (.int i)) (.st (.int j)) (.st (.int (i ^ j.toNat))) := od_I (f := fun i j => .int (i ^ j.toNat)) (fun _ _ _ => .int _) h
theorem neg_int {i : Int} : UnD K (rU fun i => .int (-i)) (.st (.int i)) (.st (.int (-i))) := fun H0 G H v Q _ s a q => by
  obtain rfl := rep_int a
  exact ⟨i, rfl, q _ G H (Gr.refl s) (.int _)⟩
theorem lt_int {i j : Int} : OpD K (rI0 fun i j => .bl (decide (i < j))) (.st (.int i)) (.st (.int j)) (.st (.bl (decide (i < j)))) := od_I0 (f := fun i j => .bl (decide (i < j))) fun _ _ _ => .bl _
theorem le_int {i j : Int} : OpD K (rI0 fun i j => .bl (decide (i ≤ j))) (.st (.int i)) (.st (.int j)) (.st (.bl (decide (i ≤ j)))) := od_I0 (f := fun i j => .bl (decide (i ≤ j))) fun _ _ _ => .bl _
theorem gt_int {i j : Int} : OpD K (rI0 fun i j => .bl (decide (j < i))) (.st (.int i)) (.st (.int j)) (.st (.bl (decide (j < i)))) := od_I0 (f := fun i j => .bl (decide (j < i))) fun _ _ _ => .bl _
theorem ge_int {i j : Int} : OpD K (rI0 fun i j => .bl (decide (j ≤ i))) (.st (.int i)) (.st (.int j)) (.st (.bl (decide (j ≤ i)))) := od_I0 (f := fun i j => .bl (decide (j ≤ i))) fun _ _ _ => .bl _
end

/-! ### == on data -/
mutual
/-- data as the library's own -/
def py : D → PyData
  | .non => .none
  | .bl b => .bool b
  | .int i => .int i
  | .str s => .str s
  | .tup ds => .tuple (pys ds)
  | .lst ds => .list (pys ds)
  | .ins _ _ => .none
  | .exv _ _ _ => .none
  | .dct _ _ => .none
  | .dtt _ _ => .none
  | .any => .none
def pys : List D → List PyData
  | [] => []
  | d :: ds => py d :: pys ds
end
mutual
/-- no objects in it -/
def flat : D → Bool
  | .tup ds => flats ds
  | .lst ds => flats ds
  | .ins _ _ => false
  | .exv _ _ _ => false
  | .dct _ _ => false
  | .dtt _ _ => false
  | .any => false
  | _ => true
def flats : List D → Bool
  | [] => true
  | d :: ds => flat d && flats ds
end
mutual
theorem Rep.dp {K : Frag} {H : Hp} : ∀ {d : D} {v : V}, flat d = true → Rep K H v d → Dp K H v (py d)
  | .non, _, _, h => by cases h; exact .non
  | .bl _, _, _, h => by cases h; exact .bl _
  | .int _, _, _, h => by cases h; exact .int _
  | .str _, _, _, h => by cases h; exact .str _
  | .tup ds, _, f, h => by
    cases h with
    | tup a r => exact .tup a (Reps.dp (by simpa [flat] using f) r)
  | .lst ds, _, f, h => by
    cases h with
    | lst a r => exact .lst a (Reps.dp (by simpa [flat] using f) r)
  | .ins _ _, _, f, _ => by simp [flat] at f
  | .exv _ _ _, _, f, _ => by simp [flat] at f
  | .dct _ _, _, f, _ => by simp [flat] at f
  | .dtt _ _, _, f, _ => by simp [flat] at f
  | .any, _, f, _ => by simp [flat] at f
theorem Reps.dp {K : Frag} {H : Hp} : ∀ {ds : List D} {vs : List V}, flats ds = true → Reps K H vs ds → DpAll K H vs (pys ds)
  | [], _, _, h => by cases h; exact .nil
  | d :: ds, _, f, h => by
    have f' : flat d = true ∧ flats ds = true := by simpa [flats] using f
    cases h with
    | cons a r => exact .cons (Rep.dp f'.1 a) (Reps.dp f'.2 r)
end
/-- may stand on a side of == -/
def eqOk (d : D) : Bool := flat d && SeqAt.shaped (py d)
def eqD (d e : D) : Bool := PyData.eqv (py d) (py e)
section
variable {K : Frag} {ρ : List Sl} {t ta tb tc : TE} {x y z : Vd} {d e : D}
theorem eq_dat (hx : Rdd x d) (hy : Rdd y e) (h1 : eqOk d = true) (h2 : eqOk e = true) : OpD K (rEqD K) x y (.st (.bl (eqD d e))) := fun H0 G H v u Q _ s a b q => by
  obtain ⟨f1, s1⟩ : flat d = true ∧ SeqAt.shaped (py d) = true := by simpa [eqOk] using h1
  obtain ⟨f2, s2⟩ : flat e = true ∧ SeqAt.shaped (py e) = true := by simpa [eqOk] using h2
  exact ⟨py d, py e, Rep.dp f1 (a.rdd s hx), Rep.dp f2 (b.rdd s hy), s1, s2, q _ G H (Gr.refl s) (.bl _)⟩
theorem ne_dat (hx : Rdd x d) (hy : Rdd y e) (h1 : eqOk d = true) (h2 : eqOk e = true) : OpD K (rNeD K) x y (.st (.bl (!eqD d e))) := fun H0 G H v u Q _ s a b q => by
  obtain ⟨f1, s1⟩ : flat d = true ∧ SeqAt.shaped (py d) = true := by simpa [eqOk] using h1
  obtain ⟨f2, s2⟩ : flat e = true ∧ SeqAt.shaped (py e) = true := by simpa [eqOk] using h2
  exact ⟨py d, py e, Rep.dp f1 (a.rdd s hx), Rep.dp f2 (b.rdd s hy), s1, s2, q _ G H (Gr.refl s) (.bl _)⟩

/-! ### tests -/
theorem tv_test {c : Bool} (h : EV K t ρ (.st (.bl c))) : TV K (tTest t) ρ c := fun b G H σ Q o q => h b G H σ _ o fun v G' H' g r => ⟨c, rep_bl r, q G' H' g⟩
theorem tv_B {c : Bool} (h : EV K t ρ (.st (.bl c))) : TV K (tB t) ρ c := fun b G H σ Q o q => h b G H σ _ o fun v G' H' g r => ⟨c, rep_bl r, q G' H' g⟩
theorem tv_is {u : TT} {c c' : Bool} (h : TV K u ρ c) (e : c = c') : TV K u ρ c' := by rw [← e]; exact h
theorem tv_not {u : TT} {c : Bool} (h : TV K u ρ c) : TV K (tNot u) ρ (!c) := fun b G H σ Q o q => h b G H σ _ o fun G' H' g => q G' H' g
theorem tv_and {u w : TT} {c c' : Bool} (h : TV K u ρ c) (h' : c = true → TV K w ρ c') : TV K (tAnd u w) ρ (c && c') := fun b G H σ Q o q => h b G H σ _ o fun G' H' g => by
  cases c with
  | true =>
    show w σ H' Q
    exact h' rfl b G' H' σ Q (o.gr g) fun G2 H2 g2 => q G2 H2 (g.trans g2)
  | false =>
    show Q false H'
    exact q G' H' g
theorem tv_or {u w : TT} {c c' : Bool} (h : TV K u ρ c) (h' : c = false → TV K w ρ c') : TV K (tOr u w) ρ (c || c') := fun b G H σ Q o q => h b G H σ _ o fun G' H' g => by
  cases c with
  | true =>
    show Q true H'
    exact q G' H' g
  | false =>
    show w σ H' Q
    exact h' rfl b G' H' σ Q (o.gr g) fun G2 H2 g2 => q G2 H2 (g.trans g2)
theorem tv_eq {u w : TT} {c : Bool} (h : TV K u ρ c) (e : u = w) : TV K w ρ c := by rw [← e]; exact h
/-- truth of a list -/
theorem tv_truL {ds : List D} (h : EV K t ρ x) (l : Lsd x ds) : TV K (fun σ H Q => t σ H fun x H' => ∃ k, TruV K x H' k ∧ Q k H') ρ (!ds.isEmpty) := fun b G H σ Q o q => h b G H σ _ o fun v G' H' g r => by
  obtain ⟨a, vs, rfl, h1, h2⟩ := r.lsd g.gh l
  refine ⟨!ds.isEmpty, ?_, q G' H' g⟩
  have e : vs.isEmpty = ds.isEmpty := by
    have := h2.length
    cases vs <;> cases ds <;> simp_all
  exact .inl ⟨vs, h1, by rw [e]⟩
theorem tv_truB {c : Bool} (h : EV K t ρ (.st (.bl c))) : TV K (fun σ H Q => t σ H fun x H' => ∃ k, TruV K x H' k ∧ Q k H') ρ c := fun b G H σ Q o q => h b G H σ _ o fun v G' H' g r => by
  obtain rfl := rep_bl r
  exact ⟨c, rfl, q G' H' g⟩
/-- a <= b < c -/
theorem ev_chain {r r' : R2} {c c' : Bool} (ha : EV K ta ρ x) (hb : EV K tb ρ y) (h : OpD K r x y (.st (.bl c))) (hc : c = true → EV K tc ρ z) (h' : c = true → OpD K r' y z (.st (.bl c'))) : EV K (tChain r r' ta tb tc) ρ (.st (.bl (c && c'))) := fun b G H σ Q o q =>
  ha b G H σ _ o fun v G1 H1 g1 r1 => hb b G1 H1 σ _ (o.gr g1) fun u G2 H2 g2 r2 =>
    h H G2 H2 v u _ (g1.hh.trans g2.hh) g2.gh (r1.gr g2) (r2.down g1.hh) fun w G3 H3 g3 r3 => ⟨c, rep_bl r3, by
      have g13 := (g1.trans g2).trans g3
      cases c with
      | false =>
        show Q (.bl false) H3
        exact q _ G3 H3 g13 (.bl false)
      | true =>
        show tc σ H3 _
        exact hc rfl b G3 H3 σ _ (o.gr g13) fun w2 G4 H4 g4 r4 =>
          h' rfl H G4 H4 u w2 Q (g13.hh.trans g4.hh) g4.gh ((r2.down g1.hh).gr (g3.trans g4)) (r4.down g13.hh) fun w3 G5 H5 g5 r5 => q w3 G5 H5 ((g13.trans g4).trans g5) (r5.down (g13.hh.trans g4.hh))⟩
/-- values of and, or, not; a if c else b -/
theorem ev_andV {c c' : Bool} (h : EV K ta ρ (.st (.bl c))) (h' : c = true → EV K tb ρ (.st (.bl c'))) : EV K (tAndV ta tb) ρ (.st (.bl (c && c'))) := fun b G H σ Q o q => h b G H σ _ o fun v G' H' g r => ⟨c, rep_bl r, by
  cases c with
  | true =>
    show tb σ H' Q
    exact h' rfl b G' H' σ Q (o.gr g) fun w G2 H2 g2 r2 => q w G2 H2 (g.trans g2) (r2.down g.hh)
  | false =>
    show Q (.bl false) H'
    exact q _ G' H' g (.bl false)⟩
theorem ev_orV {c c' : Bool} (h : EV K ta ρ (.st (.bl c))) (h' : c = false → EV K tb ρ (.st (.bl c'))) : EV K (tOrV ta tb) ρ (.st (.bl (c || c'))) := fun b G H σ Q o q => h b G H σ _ o fun v G' H' g r => ⟨c, rep_bl r, by
  cases c with
  | true =>
    show Q (.bl true) H'
    exact q _ G' H' g (.bl true)
  | false =>
    show tb σ H' Q
    exact h' rfl b G' H' σ Q (o.gr g) fun w G2 H2 g2 r2 => q w G2 H2 (g.trans g2) (r2.down g.hh)⟩
theorem ev_notV {c : Bool} (h : EV K ta ρ (.st (.bl c))) : EV K (tNotV ta) ρ (.st (.bl (!c))) := fun b G H σ Q o q => h b G H σ _ o fun v G' H' g r => ⟨c, rep_bl r, q _ G' H' g (.bl _)⟩
theorem ev_if {u : TT} {c : Bool} (h : TV K u ρ c) (h1 : c = true → EV K ta ρ x) (h2 : c = false → EV K tb ρ x) : EV K (tIf u ta tb) ρ x := fun b G H σ Q o q => h b G H σ _ o fun G' H' g => by
  cases c with
  | true =>
    show ta σ H' Q
    exact h1 rfl b G' H' σ Q (o.gr g) fun w G2 H2 g2 r2 => q w G2 H2 (g.trans g2) (r2.down g.hh)
  | false =>
    show tb σ H' Q
    exact h2 rfl b G' H' σ Q (o.gr g) fun w G2 H2 g2 r2 => q w G2 H2 (g.trans g2) (r2.down g.hh)

/-! ### several in a row, displays -/
theorem VRs.gr {H0 G H G' H' : Hp} (g : Gr G H G' H') : ∀ {vs : List V} {xs : List Vd}, VRs K H0 G H vs xs → VRs K H0 G' H' vs xs
  | _, _, .nil => .nil
  | _, _, .cons a r => .cons (a.gr g) (VRs.gr g r)
theorem VRs.down {H0 H1 G H : Hp} (s : Same H0 H1) : ∀ {vs : List V} {xs : List Vd}, VRs K H1 G H vs xs → VRs K H0 G H vs xs
  | _, _, .nil => .nil
  | _, _, .cons a r => .cons (a.down s) (VRs.down s r)
theorem av_nil : AV K tNil ρ [] := fun b G H σ Q o q => q [] G H o.refl .nil
theorem av_cons {tr : TA} {xs : List Vd} (h : EV K ta ρ x) (hr : AV K tr ρ xs) : AV K (tCons ta tr) ρ (x :: xs) := fun b G H σ Q o q =>
  h b G H σ _ o fun v G1 H1 g1 r1 => hr b G1 H1 σ _ (o.gr g1) fun vs G2 H2 g2 r2 => q (v :: vs) G2 H2 (g1.trans g2) (.cons (r1.gr g2) (r2.down g1.hh))
/-- all of them stay -/
theorem VRs.stb {G H G' H' : Hp} : ∀ {vs : List V} {xs : List Vd} {ds : List D} {G0 : Hp}, Gr G0 H G' H' → VRs K H G' H' vs xs → Stbs xs ds → ∃ G2, Gr G0 H G2 H' ∧ Same G' G2 ∧ Reps K G2 vs ds
  | _, _, _, _, g, .nil, .nil => ⟨_, g, Same.refl _, .nil⟩
  | _, _, _, G0, g, .cons (x := x) a r, .cons (d := d) s t => by
    obtain ⟨G2, g2, s2, r2⟩ := VR.stb g a s
    -- the others: they may be frozen over the greater part, but for what is already in it
    by_cases hx : ∃ d', x = .st d'
    · obtain ⟨d', rfl⟩ := hx
      obtain ⟨G3, g3, s3, r3⟩ := VRs.stb (G := G) g r t
      cases s
      exact ⟨G3, g3, s3, .cons (Rep.mono s3 _ a) r3⟩
    · obtain ⟨G3, g3, s3, r3⟩ := VRs.stb (G := G) g r t
      exact VRs.stbAux g3 s3 r3 a s
where
  VRs.stbAux {G0 H G' H' G3 : Hp} {vs : List V} {ds : List D} {v : V} {x : Vd} {d : D} (g3 : Gr G0 H G3 H') (s3 : Same G' G3) (r3 : Reps K G3 vs ds) (a : VR K H G' H' v x) (s : Stb x d) : ∃ G2, Gr G0 H G2 H' ∧ Same G' G2 ∧ Reps K G2 (v :: vs) (d :: ds) := by
    cases s with
    | st => exact ⟨G3, g3, s3, .cons (Rep.mono s3 _ a) r3⟩
    | fr =>
      obtain ⟨a, vs', rfl, h0, hg, hh, hr⟩ := a
      by_cases q : G3 a = none
      · obtain ⟨g4, _, s4, _⟩ := g3.put h0 q hh
        exact ⟨_, g4, s3.trans s4, .cons (.lst (SqL.of upd_same) (Reps.mono (s3.trans s4) _ hr)) (Reps.mono s4 _ r3)⟩
      · cases e : G3 a with
        | none => exact absurd e q
        | some o =>
          have := g3.gh a o e
          rw [hh] at this
          cases this
          exact ⟨G3, g3, s3, .cons (.lst (SqL.of e) (Reps.mono s3 _ hr)) r3⟩
    | fi =>
      obtain ⟨a, dx, vs', rfl, h0, hg, hh, hr⟩ := a
      by_cases q : G3 a = none
      · obtain ⟨g4, _, s4, _⟩ := g3.put h0 q hh
        exact ⟨_, g4, s3.trans s4, .cons (.ins upd_same (RepF.mono (s3.trans s4) _ hr)) (Reps.mono s4 _ r3)⟩
      · cases e : G3 a with
        | none => exact absurd e q
        | some o =>
          have := g3.gh a o e
          rw [hh] at this
          cases this
          exact ⟨G3, g3, s3, .cons (.ins e (RepF.mono s3 _ hr)) r3⟩
    | fd =>
      obtain ⟨a, vs', rfl, h0, hg, hh, hr⟩ := a
      by_cases q : G3 a = none
      · obtain ⟨g4, _, s4, _⟩ := g3.put h0 q hh
        exact ⟨_, g4, s3.trans s4, .cons (.dct upd_same hr.1 (Reps.mono (s3.trans s4) _ hr.2)) (Reps.mono s4 _ r3)⟩
      · cases e : G3 a with
        | none => exact absurd e q
        | some o =>
          have := g3.gh a o e
          rw [hh] at this
          cases this
          exact ⟨G3, g3, s3, .cons (.dct e hr.1 (Reps.mono s3 _ hr.2)) r3⟩
    | fdt =>
      obtain ⟨a, vs', rfl, h0, hg, hh, hr⟩ := a
      by_cases q : G3 a = none
      · obtain ⟨g4, _, s4, _⟩ := g3.put h0 q hh
        exact ⟨_, g4, s3.trans s4, .cons (.dtt upd_same hr.1 (Reps.mono (s3.trans s4) _ hr.2)) (Reps.mono s4 _ r3)⟩
      · cases e : G3 a with
        | none => exact absurd e q
        | some o =>
          have := g3.gh a o e
          rw [hh] at this
          cases this
          exact ⟨G3, g3, s3, .cons (.dtt e hr.1 (Reps.mono s3 _ hr.2)) r3⟩
theorem ev_tup {tr : TA} {xs : List Vd} {ds : List D} (h : AV K tr ρ xs) (s : Stbs xs ds) (hl : ds.length ≤ 1000) : EV K (tTup tr) ρ (.st (.tup ds)) := fun b G H σ Q o q => h b G H σ _ o fun vs G1 H1 g1 r1 => by
  obtain ⟨G2, g2, s2, r2⟩ := VRs.stb (G := G) g1 r1 s
  have hl' := r2.length
  refine ⟨Nat.le_of_lt (small1000 (by omega)), fun p hp => ?_⟩
  obtain ⟨g3, s3⟩ := Gr.new g2.gh (.tup vs) hp
  exact q _ _ _ (g2.trans g3) (.tup (SqT.of upd_same) (Reps.mono s3 _ r2))
theorem ev_lst {tr : TA} {xs : List Vd} {ds : List D} (h : AV K tr ρ xs) (s : Stbs xs ds) (hl : ds.length ≤ 1000) : EV K (tLst tr) ρ (.fr ds) := fun b G H σ Q o q => h b G H σ _ o fun vs G1 H1 g1 r1 => by
  obtain ⟨G2, g2, s2, r2⟩ := VRs.stb (G := G) g1 r1 s
  have hl' := r2.length
  refine ⟨Nat.le_of_lt (small1000 (by omega)), fun p hp => ?_⟩
  obtain ⟨g3, n3⟩ := Gr.newO g2.gh (.lst vs) hp
  exact q _ _ _ (g2.trans g3) ⟨p, vs, rfl, g2.hh.free hp, n3, upd_same, r2⟩
end
end DL

set_option maxRecDepth 100000
set_option maxHeartbeats 4000000
/-! The data layer, part c: items, slices, built-in calls, calls of defs and methods. -/
namespace DL
open PySem L2

section
variable {K : Frag} {ρ : List Sl} {t ta tb tc : TE} {x y z : Vd} {d e : D}
/-! ### items -/
/-- the item at a place of any sign -/
theorem reps_at {G : Hp} {vs : List V} {ds : List D} {i : Int} (r : Reps K G vs ds) (h : atI ds i = some d) : ∃ v, atI vs i = some v ∧ Rep K G v d := by
  unfold atI at h ⊢
  have hl := r.length
  rw [hl]
  cases e : ixN ds.length i with
  | none => rw [e] at h; cases h
  | some j =>
    rw [e] at h
    exact r.get h
theorem ix_lst {ds : List D} {i : Int} (hx : Lsd x ds) (h : atI ds i = some d) : OpD K (rIx K) x (.st (.int i)) (.st d) := fun H0 G H v u Q _ s a b q => by
  obtain rfl := rep_int b
  obtain ⟨p, vs, rfl, h1, h2⟩ := a.lsd s hx
  obtain ⟨w, h3, h4⟩ := reps_at h2 h
  exact .inl ⟨p, vs, i, w, rfl, rfl, h1, h3, q w G H (Gr.refl s) h4⟩
theorem ix_tup {ds : List D} {i : Int} (h : atI ds i = some d) : OpD K (rIx K) (.st (.tup ds)) (.st (.int i)) (.st d) := fun H0 G H v u Q _ s a b q => by
  obtain rfl := rep_int b
  cases a with
  | @tup p vs _ h1 h2 =>
    obtain ⟨w, h3, h4⟩ := reps_at h2 h
    exact .inr (.inl ⟨p, vs, i, w, rfl, rfl, sqt_mono s h1, h3, q w G H (Gr.refl s) h4⟩)
/-! ### slices -/
def cutD (ds : List D) (lo hi : Option Int) : List D := (ds.drop (HT.sIx ds.length 0 lo)).take (HT.sIx ds.length ds.length hi - HT.sIx ds.length 0 lo)
theorem reps_cut {G : Hp} {vs : List V} {ds : List D} (r : Reps K G vs ds) (lo hi : Option Int) : Reps K G (cutV vs lo hi) (cutD ds lo hi) := by
  unfold cutV cutD
  rw [r.length]
  exact (r.drop _).take _
/-- a part of a slice -/
def OV (K : Frag) (t : TO) (ρ : List Sl) (x : Option Int) : Prop := ∀ (b : Bs) (G H : Hp) (σ : St) (Q : Option Int → Hp → Prop), Ok K b G H σ ρ → (∀ G' H', Gr G H G' H' → Q x H') → t σ H Q
theorem ov_none : OV K tNoPart ρ none := fun b G H σ Q o q => q G H o.refl
theorem ov_some {i : Int} (h : EV K t ρ (.st (.int i))) : OV K (tPart t) ρ (some i) := fun b G H σ Q o q => h b G H σ _ o fun v G' H' g r => ⟨i, rep_int r, q G' H' g⟩
def SlD (K : Frag) (r : V → Option Int → Option Int → Hp → VK → Prop) (x : Vd) (lo hi : Option Int) (z : Vd) : Prop := ∀ (H0 G H : Hp) (v : V) (Q : VK), Same H0 H → Same G H → VR K H0 G H v x → (∀ w G' H', Gr G H G' H' → VR K H G' H' w z → Q w H') → r v lo hi H Q
theorem ev_sl {r : V → Option Int → Option Int → Hp → VK → Prop} {tl th : TO} {lo hi : Option Int} (ha : EV K ta ρ x) (hl : OV K tl ρ lo) (hh : OV K th ρ hi) (h : SlD K r x lo hi z) : EV K (tSl r ta tl th) ρ z := fun b G H σ Q o q =>
  ha b G H σ _ o fun v G1 H1 g1 r1 => hl b G1 H1 σ _ (o.gr g1) fun G2 H2 g2 => hh b G2 H2 σ _ ((o.gr g1).gr g2) fun G3 H3 g3 =>
    h H G3 H3 v Q (g1.hh.trans (g2.hh.trans g3.hh)) g3.gh ((r1.gr g2).gr g3) fun w G4 H4 g4 r4 => q w G4 H4 (((g1.trans g2).trans g3).trans g4) (r4.down (g1.hh.trans (g2.hh.trans g3.hh)))
def rSlU (K : Frag) : V → Option Int → Option Int → Hp → VK → Prop := fun x lo hi H Q => rSlL K x lo hi H Q ∨ rSlT K x lo hi H Q
theorem u_sl {X : Cx} : SlR X (rSlU X.K) := sl_list.or sl_tup
theorem sl_lst {ds : List D} {lo hi : Option Int} (hx : Lsd x ds) : SlD K (rSlU K) x lo hi (.fr (cutD ds lo hi)) := fun H0 G H v Q _ s a q => by
  obtain ⟨p, vs, rfl, h1, h2⟩ := a.lsd s hx
  refine .inl ⟨p, vs, rfl, h1, fun c hc => ?_⟩
  obtain ⟨g, n⟩ := Gr.newO s (.lst (cutV vs lo hi)) hc
  exact q _ _ _ g ⟨c, _, rfl, hc, n, upd_same, reps_cut h2 lo hi⟩
theorem sl_tpl {ds : List D} {lo hi : Option Int} (h : ¬ (HT.sIx ds.length 0 lo = 0 ∧ HT.sIx ds.length ds.length hi = ds.length)) : SlD K (rSlU K) (.st (.tup ds)) lo hi (.st (.tup (cutD ds lo hi))) := fun H0 G H v Q _ s a q => by
  cases a with
  | @tup p vs _ h1 h2 =>
    have hl := h2.length
    refine .inr ⟨p, vs, rfl, sqt_mono s h1, by rw [hl]; exact h, fun c hc => ?_⟩
    obtain ⟨g, s1⟩ := Gr.new s (.tup (cutV vs lo hi)) hc
    exact q _ _ _ g (.tup (SqT.of upd_same) (Reps.mono s1 _ (reps_cut h2 lo hi)))

/-! ### built-in calls -/
def CbD (K : Frag) (r : List V → Hp → VK → Prop) (xs : List Vd) (z : Vd) : Prop := ∀ (H0 G H : Hp) (vs : List V) (Q : VK), Same H0 H → Same G H → VRs K H0 G H vs xs → (∀ w G' H', Gr G H G' H' → VR K H G' H' w z → Q w H') → r vs H Q
theorem ev_cb {r : List V → Hp → VK → Prop} {tr : TA} {xs : List Vd} (ha : AV K tr ρ xs) (h : CbD K r xs z) : EV K (tCB r tr) ρ z := fun b G H σ Q o q =>
  ha b G H σ _ o fun vs G1 H1 g1 r1 => h H G1 H1 vs Q g1.hh g1.gh r1 fun w G2 H2 g2 r2 => q w G2 H2 (g1.trans g2) (r2.down g1.hh)
theorem vrs1 {H0 G H : Hp} {vs : List V} (h : VRs K H0 G H vs [x]) : ∃ v, vs = [v] ∧ VR K H0 G H v x := by
  cases h with
  | cons a r => cases r; exact ⟨_, rfl, a⟩
theorem vrs2 {H0 G H : Hp} {vs : List V} (h : VRs K H0 G H vs [x, y]) : ∃ v w, vs = [v, w] ∧ VR K H0 G H v x ∧ VR K H0 G H w y := by
  cases h with
  | cons a r => cases r with | cons b r => cases r; exact ⟨_, _, rfl, a, b⟩
theorem vrs3 {H0 G H : Hp} {vs : List V} (h : VRs K H0 G H vs [x, y, z]) : ∃ v w u, vs = [v, w, u] ∧ VR K H0 G H v x ∧ VR K H0 G H w y ∧ VR K H0 G H u z := by
  cases h with
  | cons a r => cases r with | cons b r => cases r with | cons c r => cases r; exact ⟨_, _, _, rfl, a, b, c⟩
def rLenU (K : Frag) : List V → Hp → VK → Prop := fun xs H Q => (∃ p ys, xs = [.ref p] ∧ (SqL K H p ys ∨ SqT K H p ys) ∧ Q (.int ys.length) H) ∨ (∃ z : Str, xs = [.str z] ∧ z.length ≤ sizeLine ∧ Q (.int z.length) H)
theorem u_len {X : Cx} : CallR X (.builtin "len") (rLenU X.K) := call_len_seq.or call_len_str
theorem len_lst {ds : List D} (hx : Lsd x ds) : CbD K (rLenU K) [x] (.st (.int ds.length)) := fun H0 G H vs Q _ s a q => by
  obtain ⟨v, rfl, r⟩ := vrs1 a
  obtain ⟨p, ws, rfl, h1, h2⟩ := r.lsd s hx
  exact .inl ⟨p, ws, rfl, .inl h1, by rw [h2.length]; exact q _ G H (Gr.refl s) (.int _)⟩
theorem len_tup {ds : List D} : CbD K (rLenU K) [.st (.tup ds)] (.st (.int ds.length)) := fun H0 G H vs Q _ s a q => by
  obtain ⟨v, rfl, r⟩ := vrs1 a
  cases r with
  | @tup p ws _ h1 h2 => exact .inl ⟨p, ws, rfl, .inr (sqt_mono s h1), by rw [h2.length]; exact q _ G H (Gr.refl s) (.int _)⟩
theorem abs_int {i : Int} : CbD K (fun xs H Q => ∃ i, xs = [.int i] ∧ Q (.int (if i < 0 then -i else i)) H) [.st (.int i)] (.st (.int (if i < 0 then -i else i))) := fun H0 G H vs Q _ s a q => by
  obtain ⟨v, rfl, r⟩ := vrs1 a
  obtain rfl := rep_int r
  exact ⟨i, rfl, q _ G H (Gr.refl s) (.int _)⟩
theorem max2_int {i j : Int} : CbD K (fun xs H Q => ∃ i j, xs = [.int i, .int j] ∧ Q (.int (if j > i then j else i)) H) [.st (.int i), .st (.int j)] (.st (.int (if j > i then j else i))) := fun H0 G H vs Q _ s a q => by
  obtain ⟨v, w, rfl, r1, r2⟩ := vrs2 a
  obtain rfl := rep_int r1
  obtain rfl := rep_int r2
  exact ⟨i, j, rfl, q _ G H (Gr.refl s) (.int _)⟩
theorem min2_int {i j : Int} : CbD K (fun xs H Q => ∃ i j, xs = [.int i, .int j] ∧ Q (.int (if j < i then j else i)) H) [.st (.int i), .st (.int j)] (.st (.int (if j < i then j else i))) := fun H0 G H vs Q _ s a q => by
  obtain ⟨v, w, rfl, r1, r2⟩ := vrs2 a
  obtain rfl := rep_int r1
  obtain rfl := rep_int r2
  exact ⟨i, j, rfl, q _ G H (Gr.refl s) (.int _)⟩
abbrev rIntU : List V → Hp → VK → Prop := fun xs H Q => (∃ i, xs = [.int i] ∧ Q (.int i) H) ∨ ∃ k, xs = [.bl k] ∧ Q (.int (if k then 1 else 0)) H
theorem int_int {i : Int} : CbD K rIntU [.st (.int i)] (.st (.int i)) := fun H0 G H vs Q _ s a q => by
  obtain ⟨v, rfl, r⟩ := vrs1 a
  obtain rfl := rep_int r
  exact .inl ⟨i, rfl, q _ G H (Gr.refl s) (.int _)⟩
theorem int_bl {c : Bool} : CbD K rIntU [.st (.bl c)] (.st (.int (if c then 1 else 0))) := fun H0 G H vs Q _ s a q => by
  obtain ⟨v, rfl, r⟩ := vrs1 a
  obtain rfl := rep_bl r
  exact .inr ⟨c, rfl, q _ G H (Gr.refl s) (.int _)⟩
abbrev rListU (K : Frag) : List V → Hp → VK → Prop := fun xs H Q => ∃ p ys, xs = [.ref p] ∧ (SqL K H p ys ∨ SqT K H p ys) ∧ ∀ l, H l = none → Q (.ref l) (upd H l (.lst ys))
theorem list_lst {ds : List D} (hx : Lsd x ds) : CbD K (rListU K) [x] (.fr ds) := fun H0 G H vs Q _ s a q => by
  obtain ⟨v, rfl, r⟩ := vrs1 a
  obtain ⟨p, ws, rfl, h1, h2⟩ := r.lsd s hx
  refine ⟨p, ws, rfl, .inl h1, fun c hc => ?_⟩
  obtain ⟨g, n⟩ := Gr.newO s (.lst ws) hc
  exact q _ _ _ g ⟨c, _, rfl, hc, n, upd_same, h2⟩
theorem list_tup {ds : List D} : CbD K (rListU K) [.st (.tup ds)] (.fr ds) := fun H0 G H vs Q _ s a q => by
  obtain ⟨v, rfl, r⟩ := vrs1 a
  cases r with
  | @tup p ws _ h1 h2 =>
    refine ⟨p, ws, rfl, .inr (sqt_mono s h1), fun c hc => ?_⟩
    obtain ⟨g, n⟩ := Gr.newO s (.lst ws) hc
    exact q _ _ _ g ⟨c, _, rfl, hc, n, upd_same, h2⟩
abbrev rTupU (K : Frag) : List V → Hp → VK → Prop := fun xs H Q => ∃ p ys, xs = [.ref p] ∧ ((SqL K H p ys ∧ ∀ l, H l = none → Q (.ref l) (upd H l (.tup ys))) ∨ (SqT K H p ys ∧ Q (.ref p) H))
theorem tup_lst {ds : List D} (hx : Lsd x ds) : CbD K (rTupU K) [x] (.st (.tup ds)) := fun H0 G H vs Q _ s a q => by
  obtain ⟨v, rfl, r⟩ := vrs1 a
  obtain ⟨p, ws, rfl, h1, h2⟩ := r.lsd s hx
  refine ⟨p, ws, rfl, .inl ⟨h1, fun c hc => ?_⟩⟩
  obtain ⟨g, s1⟩ := Gr.new s (.tup ws) hc
  exact q _ _ _ g (.tup (SqT.of upd_same) (Reps.mono s1 _ h2))
theorem reps_bls {G : Hp} : ∀ {bs : List Bool} {vs : List V}, Reps K G vs (bs.map D.bl) → vs = bs.map V.bl
  | [], _, h => by cases h; rfl
  | b :: bs, _, h => by
    cases h with
    | cons a r =>
      obtain rfl := rep_bl a
      rw [reps_bls r]
      rfl
theorem reps_ints {G : Hp} : ∀ {bs : List Int} {vs : List V}, Reps K G vs (bs.map D.int) → vs = bs.map V.int
  | [], _, h => by cases h; rfl
  | b :: bs, _, h => by
    cases h with
    | cons a r =>
      obtain rfl := rep_int a
      rw [reps_ints r]
      rfl
theorem ints_reps {G : Hp} : ∀ (bs : List Int), Reps K G (bs.map V.int) (bs.map D.int)
  | [] => .nil
  | b :: bs => .cons (.int b) (ints_reps bs)
theorem all_bls {bs : List Bool} (hx : Lsd x (bs.map D.bl)) : CbD K (rAll K) [x] (.st (.bl (bs.all id))) := fun H0 G H vs Q _ s a q => by
  obtain ⟨v, rfl, r⟩ := vrs1 a
  obtain ⟨p, ws, rfl, h1, h2⟩ := r.lsd s hx
  rw [reps_bls h2] at h1
  exact ⟨p, bs, rfl, h1, q _ G H (Gr.refl s) (.bl _)⟩
theorem any_bls {bs : List Bool} (hx : Lsd x (bs.map D.bl)) : CbD K (rAny K) [x] (.st (.bl (bs.any id))) := fun H0 G H vs Q _ s a q => by
  obtain ⟨v, rfl, r⟩ := vrs1 a
  obtain ⟨p, ws, rfl, h1, h2⟩ := r.lsd s hx
  rw [reps_bls h2] at h1
  exact ⟨p, bs, rfl, h1, q _ G H (Gr.refl s) (.bl _)⟩

/-! ### in -/
def rInU (K : Frag) (neg : Bool) : R2 := fun x y H Q => ∃ d ds, Dp K H x d ∧ (Dp K H y (.list ds) ∨ Dp K H y (.tuple ds)) ∧ SeqAt.shaped d = true ∧ SeqAt.shaped (.list ds) = true ∧ Q (.bl (if neg then !(ds.any fun z => PyData.eqv z d) else ds.any fun z => PyData.eqv z d)) H
end
theorem u_in {X : Cx} (hu : X.A.units + 65 < cLine) : OpR X (compareOp .In) (rInU X.K false) := by
  intro pins s σ H x y v u Q I rx ry h
  obtain ⟨d, ds, hd, he, sd, se, q⟩ := h
  rcases he with he | he
  · exact op_inD hu pins s σ H x y v u Q I rx ry ⟨d, ds, hd, he, sd, se, q⟩
  · obtain ⟨as, r1⟩ := Dp.reads I d x v hd rx
    obtain ⟨bs, r2⟩ := Dp.reads I (.tuple ds) y u he ry
    exact SeqAt.in_tuple_reads r2 r1 (SeqAt.canLay_of_shaped se) (SeqAt.canLay_of_shaped sd) (by have h3 := SeqAt.depth_of_shaped sd; have h4 := Nat.min_le_right (PyData.depthAll ds) d.depth; omega) ⟨.bl _, H, I, rfl, q⟩
theorem u_notin {X : Cx} (hu : X.A.units + 65 < cLine) : OpR X (compareOp .NotIn) (fun x y H Q => ∃ d ds, Dp X.K H x d ∧ Dp X.K H y (.list ds) ∧ SeqAt.shaped d = true ∧ SeqAt.shaped (.list ds) = true ∧ Q (.bl (!(ds.any fun z => PyData.eqv z d))) H) := op_notInD hu
section
variable {K : Frag} {ρ : List Sl} {t ta tb tc : TE} {x y z : Vd} {d e : D}
/-- is it there, by == -/
def memD (d : D) (ds : List D) : Bool := ds.any fun z => eqD z d
theorem pys_map : ∀ ds : List D, pys ds = ds.map py
  | [] => rfl
  | d :: ds => by rw [pys, pys_map ds]; rfl
theorem any_pys (d : D) (ds : List D) : (pys ds).any (fun z => PyData.eqv z (py d)) = memD d ds := by
  rw [pys_map, List.any_map]
  rfl
theorem in_lst {ds : List D} (hx : Rdd x d) (hy : Lsd y ds) (h1 : eqOk d = true) (h2 : eqOk (.lst ds) = true) : OpD K (rInU K false) x y (.st (.bl (memD d ds))) := fun H0 G H v u Q _ s a b q => by
  obtain ⟨f1, s1⟩ : flat d = true ∧ SeqAt.shaped (py d) = true := by simpa [eqOk] using h1
  obtain ⟨f2, s2⟩ : flat (.lst ds) = true ∧ SeqAt.shaped (py (.lst ds)) = true := by simpa [eqOk] using h2
  obtain ⟨p, vs, rfl, h3, h4⟩ := b.lsd s hy
  refine ⟨py d, pys ds, Rep.dp f1 (a.rdd s hx), .inl (Rep.dp (d := .lst ds) f2 (.lst h3 (Reps.mono s _ h4))), s1, s2, ?_⟩
  rw [any_pys]
  exact q _ G H (Gr.refl s) (.bl _)
theorem in_tup {ds : List D} (hx : Rdd x d) (h1 : eqOk d = true) (h2 : eqOk (.lst ds) = true) : OpD K (rInU K false) x (.st (.tup ds)) (.st (.bl (memD d ds))) := fun H0 G H v u Q _ s a b q => by
  obtain ⟨f1, s1⟩ : flat d = true ∧ SeqAt.shaped (py d) = true := by simpa [eqOk] using h1
  obtain ⟨f2, s2⟩ : flat (.lst ds) = true ∧ SeqAt.shaped (py (.lst ds)) = true := by simpa [eqOk] using h2
  cases b with
  | @tup p vs _ h3 h4 =>
    refine ⟨py d, pys ds, Rep.dp f1 (a.rdd s hx), .inr (Rep.dp (d := .tup ds) (by simpa [flat] using f2) (.tup (sqt_mono s h3) (Reps.mono s _ h4))), s1, s2, ?_⟩
    rw [any_pys]
    exact q _ G H (Gr.refl s) (.bl _)
theorem notin_lst {ds : List D} (hx : Rdd x d) (hy : Lsd y ds) (h1 : eqOk d = true) (h2 : eqOk (.lst ds) = true) :
    OpD K (fun x y H Q => ∃ d ds, Dp K H x d ∧ Dp K H y (.list ds) ∧ SeqAt.shaped d = true ∧ SeqAt.shaped (.list ds) = true ∧ Q (.bl (!(ds.any fun z => PyData.eqv z d))) H) x y (.st (.bl (!memD d ds))) := fun H0 G H v u Q _ s a b q => by
  obtain ⟨f1, s1⟩ : flat d = true ∧ SeqAt.shaped (py d) = true := by simpa [eqOk] using h1
  obtain ⟨f2, s2⟩ : flat (.lst ds) = true ∧ SeqAt.shaped (py (.lst ds)) = true := by simpa [eqOk] using h2
  obtain ⟨p, vs, rfl, h3, h4⟩ := b.lsd s hy
  refine ⟨py d, pys ds, Rep.dp f1 (a.rdd s hx), Rep.dp (d := .lst ds) f2 (.lst h3 (Reps.mono s _ h4)), s1, s2, ?_⟩
  rw [any_pys]
  exact q _ G H (Gr.refl s) (.bl _)
/-! ### is None -/
def isNonD : Vd → Bool
  | .st .non => true
  | _ => false
theorem is_non (h : x ≠ .st .any) : OpD K (fun x y H Q => y = .non ∧ Q (.bl (decide (x = .non))) H) x (.st .non) (.st (.bl (isNonD x))) := fun H0 G H v u Q _ s a b q => by
  obtain rfl := rep_non b
  refine ⟨rfl, ?_⟩
  have e : decide (v = V.non) = isNonD x := by
    cases x with
    | st d =>
      cases d with
      | any => exact absurd rfl h
      | _ => cases a <;> rfl
    | ls ds => obtain ⟨c, vs, rfl, _⟩ := a; rfl
    | fr ds => obtain ⟨c, vs, rfl, _⟩ := a; rfl
    | fi C fs => obtain ⟨c, dx, vs, rfl, _⟩ := a; rfl
    | li C fs => obtain ⟨c, dx, vs, rfl, _⟩ := a; rfl
    | dl _ => obtain ⟨c, vs, rfl, _⟩ := a; rfl
    | fd _ => obtain ⟨c, vs, rfl, _⟩ := a; rfl
    | dlt _ => obtain ⟨c, vs, rfl, _⟩ := a; rfl
    | fdt _ => obtain ⟨c, vs, rfl, _⟩ := a; rfl
  rw [e]
  exact q _ G H (Gr.refl s) (.bl _)
theorem isnot_non (h : x ≠ .st .any) : OpD K (fun x y H Q => y = .non ∧ Q (.bl (!decide (x = .non))) H) x (.st .non) (.st (.bl (!isNonD x))) := fun H0 G H v u Q _ s a b q => by
  obtain rfl := rep_non b
  refine ⟨rfl, ?_⟩
  have e : decide (v = V.non) = isNonD x := by
    cases x with
    | st d =>
      cases d with
      | any => exact absurd rfl h
      | _ => cases a <;> rfl
    | ls ds => obtain ⟨c, vs, rfl, _⟩ := a; rfl
    | fr ds => obtain ⟨c, vs, rfl, _⟩ := a; rfl
    | fi C fs => obtain ⟨c, dx, vs, rfl, _⟩ := a; rfl
    | li C fs => obtain ⟨c, dx, vs, rfl, _⟩ := a; rfl
    | dl _ => obtain ⟨c, vs, rfl, _⟩ := a; rfl
    | fd _ => obtain ⟨c, vs, rfl, _⟩ := a; rfl
    | dlt _ => obtain ⟨c, vs, rfl, _⟩ := a; rfl
    | fdt _ => obtain ⟨c, vs, rfl, _⟩ := a; rfl
  rw [e]
  exact q _ G H (Gr.refl s) (.bl _)

/-! ### what a def promises, on data -/
/-- a def's end: a datum, or an exception of the class at C with these fields -/
inductive Res where
  | ret (d : D)
  | exc (C : Addr) (fs : Option (List (Str × D)))
def Exc (K : Frag) (G H : Hp) : Option Addr → Option (List (Str × D)) → Prop
  | none, none => True
  | some dx, some fs => ∃ vs, G dx = some (.xd vs) ∧ RepF K G vs fs
  | _, _ => False
/-- a def that changes nothing -/
def spF (K : Frag) (R : List D → Res → Prop) : Sp := fun vs H Q E => ∃ (G : Hp) (ds : List D) (r : Res), Same G H ∧ Reps K G vs ds ∧ R ds r ∧
  (match r with
    | .ret d => ∀ v G' H', Gr G H G' H' → Rep K G' v d → Q v H'
    | .exc C fs => ∀ od G' H', Gr G H G' H' → Exc K G' H' od fs → E (.ref C) od H')
/-- the object at p may have changed, all else has grown -/
structure GrP (p : Addr) (G H G' H' : Hp) : Prop where
  hh : ∀ z u, z ≠ p → H z = some u → H' z = some u
  gg : Same G G'
  fr : ∀ a, G a = none → G' a ≠ none → H a = none
  gh : Same G' H'
/-- a method (or another def) whose first argument is an object that it may change -/
def spM (K : Frag) (C : Addr) (R : List (Str × D) → List D → Res → List (Str × D) → Prop) : Sp := fun vs H Q E => ∃ (p dx : Addr) (us : List V) (fvs : List (Str × V)) (fs fs' : List (Str × D)) (G : Hp) (ds : List D) (r : Res),
  vs = .ref p :: us ∧ H p = some (.ins C dx fvs) ∧ G p = none ∧ Same G H ∧ RepF K G fvs fs ∧ Reps K G us ds ∧ R fs ds r fs' ∧
  (match r with
    | .ret d => ∀ v G' H' fvs', GrP p G H G' H' → H' p = some (.ins C dx fvs') → RepF K G' fvs' fs' → Rep K G' v d → Q v H'
    | .exc C' xs => ∀ od G' H' fvs', GrP p G H G' H' → H' p = some (.ins C dx fvs') → RepF K G' fvs' fs' → Exc K G' H' od xs → E (.ref C') od H')

/-! ### a call -/
/-- what is wanted if it raises is not asked here -/
theorem ev_call {R : List D → Res → Prop} {E : St → XK} {tr : TA} {xs : List Vd} {ds : List D} (ha : AV K tr ρ xs) (s : Stbs xs ds) (h : R ds (.ret d)) : EV K (tCallS (spF K R) E tr) ρ (.st d) := fun b G H σ Q o q =>
  ha b G H σ _ o fun vs G1 H1 g1 r1 => by
    obtain ⟨G2, g2, s2, r2⟩ := VRs.stb (G := G) g1 r1 s
    exact ⟨G2, ds, .ret d, g2.gh, r2, h, fun v G' H' g r => q v G' H' (g2.trans g) r⟩
/-- a reading that raises -/
def XV (K : Frag) (W : WX) (t : TE) (ρ : List Sl) (C : Addr) (fs : Option (List (Str × D))) : Prop := ∀ (b : Bs) (G H : Hp) (σ : St) (Q : VK), Ok K b G H σ ρ → (∀ od G' H', Gr G H G' H' → Exc K G' H' od fs → W (.ref C) od σ H') → t σ H Q
theorem xv_call {W : WX} {R : List D → Res → Prop} {tr : TA} {xs : List Vd} {ds : List D} {C : Addr} {fs : Option (List (Str × D))} (ha : AV K tr ρ xs) (s : Stbs xs ds) (h : R ds (.exc C fs)) : XV K W (tCallS (spF K R) (WE W) tr) ρ C fs := fun b G H σ Q o q =>
  ha b G H σ _ o fun vs G1 H1 g1 r1 => by
    obtain ⟨G2, g2, s2, r2⟩ := VRs.stb (G := G) g1 r1 s
    exact ⟨G2, ds, .exc C fs, g2.gh, r2, h, fun od G' H' g r => q od G' H' (g2.trans g) r⟩
end
/-- o.m(..), with a wish of exceptions at the slots -/
def tMethW (C : Addr) (m : Str) (sp : Sp) (E : St → XK) (ta : TE) (t : TA) : TE := fun σ H Q => ta σ H fun x H1 => ∃ a dx fs, x = .ref a ∧ H1 a = some (.ins C dx fs) ∧ fs.lookup m = none ∧ t σ H1 fun vs H2 => sp (x :: vs) H2 Q (E σ)
/-- C(..), with a wish of exceptions at the slots -/
def tMakeW (C : Addr) (sp : Sp) (E : St → XK) (t : TA) : TE := fun σ H Q => t σ H fun vs H1 => ∀ x dx, H1 x = none → H1 dx = none → dx ≠ x →
  sp (.ref x :: vs) (upd (upd H1 dx (.own x)) x (.ins C dx [])) (fun v H2 => v = .non ∧ Q (.ref x) H2) (E σ)
section
open PySem.Spec PyProof.Rows
variable {X : Cx} {CX : CXT} {k : Nat} {f C : Addr} {fd : FuncData} {ps : List Str} {sp : Sp} {E : L2.St → XK} {x m : Str} {p pos apos : Pos} {e o : Expr} {es : List Expr} {ta : TE} {t : TA}
theorem pe_methW {pl : Sem Bool} (he : PE X o ta) (c : Cls X.K C) (hm : Meth X.K C m f) (F : FnOk X.prog X.w X.K X.mg X.base CX k f fd ps sp) (hr : Room k X.A) (hb : Binds X.K fd ps []) (hx : ∀ σ, PassesAt CX X σ (E σ)) (ha : PA X (e :: es) t)
    (hst : starEach (e :: es) X.env = (false, eval e X.env) :: starEach es X.env := by rfl) (hpl : (backTo pos (starEach es X.env)).any (·.1) = false := by rfl)
    (ht : eval (.Call (.Attribute o m apos) (e :: es) [] pos) X.env = (do
      let ov ← eval o X.env
      standAt apos.atName
      let (f, first) ← holding [ov] (getMethod ov m pl)
      callWith pos f first (backTo pos (starEach (e :: es) X.env)) (backToKw pos (keywordEach [] X.env))) := by rfl) :
    PE X (.Call (.Attribute o m apos) (e :: es) [] pos) (tMethW C m sp E ta t) := by
  constructor
  intro pins s σ H Q I h
  refine PySem.W.methodCall_KW (pl := pl) (thn (he.run pins s σ H _ I h) ?_) ht
  rintro u s1 ⟨v, H1, I1, rv, a, dx, fs, ev, ea, l, q⟩
  subst ev
  cases rv
  refine getmeth_ok I1 ea c hm l (PySem.W.callWith_K (first := [.ref a]) (h₀ := X.base) I.ok.mod.kin hm.kp (thn (ha.run pos pins s1 σ H1 _ I1 q) ?_) hst hpl)
  rintro us s2 ⟨vs, H2, I2, r, q2⟩
  exact ⟨I2.kIn, run_fnS (us := .ref a :: us) (vs := .ref a :: vs) F hr hb (hx σ) I2 (.cons rfl r) q2⟩
theorem pe_methW0 {pl : Sem Bool} (he : PE X o ta) (c : Cls X.K C) (hm : Meth X.K C m f) (F : FnOk X.prog X.w X.K X.mg X.base CX k f fd ps sp) (hr : Room k X.A) (hb : Binds X.K fd ps []) (hx : ∀ σ, PassesAt CX X σ (E σ))
    (ht : eval (.Call (.Attribute o m apos) [] [] pos) X.env = (do
      let ov ← eval o X.env
      standAt apos.atName
      let (f, first) ← holding [ov] (getMethod ov m pl)
      callWith pos f first (backTo pos (starEach [] X.env)) (backToKw pos (keywordEach [] X.env))) := by rfl) :
    PE X (.Call (.Attribute o m apos) [] [] pos) (tMethW C m sp E ta tNil) := by
  constructor
  intro pins s σ H Q I h
  refine PySem.W.methodCall_KW (pl := pl) (thn (he.run pins s σ H _ I h) ?_) ht
  rintro u s1 ⟨v, H1, I1, rv, a, dx, fs, ev, ea, l, q⟩
  subst ev
  cases rv
  exact getmeth_ok I1 ea c hm l (PySem.W.callWith_K0 (first := [.ref a]) I1.kIn hm.kp (run_fnS (us := [.ref a]) (vs := [.ref a]) F hr hb (hx σ) I1 (.cons rfl .nil) q))
theorem run_makeS {pins : List (Addr × Obj)} {σ : L2.St} {H : Hp} {s : Shared} {Q : VK} {us : List Value} {vs : List V} {E : XK} (M : Mk X.K C f) (F : FnOk X.prog X.w X.K X.mg X.base CX k f fd ps sp) (hr : Room (k + 1) X.A) (hb : Binds X.K fd ps [])
    (hx : PassesAt CX X σ E) (I : Inv X pins σ H s) (r : Vals vs us)
    (h : ∀ y dx, H y = none → H dx = none → dx ≠ y → sp (.ref y :: vs) (upd (upd H dx (.own y)) y (.ins C dx [])) (fun v H2 => v = .non ∧ Q (.ref y) H2) E) :
    wpAny (model X.prog X.w) X.A (call (.ref C) us) (EP X pins σ Q) X.xe s := by
  have n1 := I.hok.fresh (a := s.heap.objs.size + 1) (Nat.le_succ _)
  have n2 := I.hok.fresh (a := s.heap.objs.size) (Nat.le_refl _)
  have hq := h _ _ n1 n2 (Nat.ne_of_lt (Nat.lt_succ_self _))
  have J := Inv.made (C := C) I
  have r2 : Vals (V.ref (s.heap.objs.size + 1) :: vs) (Value.ref (s.heap.objs.size + 1) :: us) := .cons rfl r
  have hl : (Value.ref (s.heap.objs.size + 1) :: us).length = ps.length := r2.length.symm.trans (F.len _ _ _ _ hq)
  have hbs := hb { s with heap := (s.heap.push PySem.W.emptyDict).push (PySem.W.instObj C s.heap.objs.size) } _ J.kIn (by rw [List.append_nil]; exact hl)
  rw [List.append_nil] at hbs
  have hrun := F.run (X.A.under (.builtin "type.__call__" ⟨.ref C :: us, []⟩)) X.stack _ _ ⟨Value.ref (s.heap.objs.size + 1) :: us, []⟩ _ _ _ E (hr.make C us []) (J.env0.make C us []) hbs r2 hq
  refine wpAny_call (make_map (f := f) I.kIn M.makes M.init (beq_iff_eq.mp M.fn) (codeAny_mono hrun ?_))
  intro res s' hres
  cases res with
  | error e => exact hx pins _ _ e s' J hres
  | ok fl =>
    cases fl with
    | ret u =>
      obtain ⟨v, H', I3, rv, ev, q3⟩ := J.after hres
      subst ev
      exact ⟨rv, V.ref (s.heap.objs.size + 1), H', I3, rfl, q3⟩
    | next => exact hres.elim
    | brk => exact hres.elim
    | cont => exact hres.elim
theorem pe_makeW (M : Mk X.K C f) (F : FnOk X.prog X.w X.K X.mg X.base CX k f fd ps sp) (hr : Room (k + 1) X.A) (hg : Gl X x) (hm : X.mg x = some (.ref C)) (hb : Binds X.K fd ps []) (hx : ∀ σ, PassesAt CX X σ (E σ))
    (ha : PA X (e :: es) t) (hdb : (x == ("__debug__" : Str)) = false := by decide) (he : starEach (e :: es) X.env = (false, eval e X.env) :: starEach es X.env := by rfl) (hpl : (backTo pos (starEach es X.env)).any (·.1) = false := by rfl) :
    PE X (.Call (.Name x p) (e :: es) [] pos) (tMakeW C sp E t) := by
  constructor
  intro pins s σ H Q I h
  refine wpAny_Call_Name_kw (ld_glob I hg hm ?_ hdb)
  refine PySem.W.callWith_K (h₀ := X.base) I.ok.mod.kin M.kp (thn (ha.run pos pins s σ H _ I h) ?_) he hpl
  rintro us s1 ⟨vs, H1, I1, r, q⟩
  exact ⟨I1.kIn, run_makeS M F hr hb (hx σ) I1 r q⟩
theorem pe_makeW0 (M : Mk X.K C f) (F : FnOk X.prog X.w X.K X.mg X.base CX k f fd ps sp) (hr : Room (k + 1) X.A) (hg : Gl X x) (hm : X.mg x = some (.ref C)) (hb : Binds X.K fd ps []) (hx : ∀ σ, PassesAt CX X σ (E σ))
    (hdb : (x == ("__debug__" : Str)) = false := by decide) : PE X (.Call (.Name x p) [] [] pos) (tMakeW C sp E tNil) := by
  constructor
  intro pins s σ H Q I h
  exact wpAny_Call_Name_kw (ld_glob I hg hm (PySem.W.callWith_K0 I.kIn M.kp (run_makeS (us := []) M F hr hb (hx σ) I .nil h)) hdb)
end
end DL

set_option maxRecDepth 100000
set_option maxHeartbeats 4000000
/-! The data layer, part d: fields, methods, objects made; readings that change an owned object; statements. -/
namespace DL
open PySem L2

section
variable {K : Frag} {ρ ρ' : List Sl} {t ta tb tc te : TE} {x y z : Vd} {d e : D} {W : WX} {C : Addr} {fs : List (Str × D)}
/-- an instance that can be read -/
inductive Insd : Vd → Addr → List (Str × D) → Prop
  | st {C : Addr} {fs : List (Str × D)} : Insd (.st (.ins C fs)) C fs
  | fi {C : Addr} {fs : List (Str × D)} : Insd (.fi C fs) C fs
  | li {C : Addr} {fs : List (Str × D)} : Insd (.li C fs) C fs
theorem VR.insd {H0 G H : Hp} {v : V} (s : Same G H) (r : VR K H0 G H v x) (i : Insd x C fs) : ∃ a dx vs, v = .ref a ∧ H a = some (.ins C dx vs) ∧ RepF K G vs fs := by
  cases i with
  | st => cases r with | ins h1 h2 => exact ⟨_, _, _, rfl, s _ _ h1, h2⟩
  | fi => obtain ⟨a, dx, vs, rfl, _, _, h1, h2⟩ := r; exact ⟨a, dx, vs, rfl, h1, h2⟩
  | li => exact r
/-! ### fields, properties, methods that change nothing -/
theorem ev_fld {f : Str} (h : EV K ta ρ x) (i : Insd x C fs) (c : Cls K C) (n : NoAttr K C f) (l : fs.lookup f = some d) : EV K (tFld K ta f) ρ (.st d) := fun b G H σ Q o q => h b G H σ _ o fun v G' H' g r => by
  obtain ⟨a, dx, vs, rfl, h1, h2⟩ := r.insd g.gh i
  obtain ⟨w, h3, h4⟩ := h2.look l
  exact ⟨a, C, dx, vs, w, rfl, h1, c, n, h3, q w G' H' g h4⟩
theorem ev_prop {R : List D → Res → Prop} {E : XK} (h : EV K ta ρ x) (i : Stb x (.ins C fs)) (k : R [.ins C fs] (.ret d)) : EV K (tProp C (spF K R) [] E ta) ρ (.st d) := fun b G H σ Q o q => h b G H σ _ o fun v G1 H1 g1 r1 => by
  obtain ⟨G2, g2, s2, r2⟩ := r1.stb g1 i
  obtain ⟨a, rfl⟩ : ∃ a, v = V.ref a := by cases r2; exact ⟨_, rfl⟩
  have r3 := r2
  cases r3 with
  | @ins _ _ dx vs _ h1 h2 =>
    exact ⟨a, dx, vs, rfl, g2.gh _ _ h1, G2, [.ins C fs], .ret d, g2.gh, .cons r2 .nil, k, fun v G' H' g r => q v G' H' (g2.trans g) r⟩
theorem ev_meth {m : Str} {R : List D → Res → Prop} {E : L2.St → XK} {tr : TA} {xs : List Vd} {ds : List D} (h : EV K ta ρ (.st (.ins C fs))) (l : fs.lookup m = none) (ha : AV K tr ρ xs) (s : Stbs xs ds) (k : R (.ins C fs :: ds) (.ret d)) :
    EV K (tMethW C m (spF K R) E ta tr) ρ (.st d) := fun b G H σ Q o q => h b G H σ _ o fun v G1 H1 g1 r1 => by
  have r1' : Rep K G1 v (.ins C fs) := r1
  obtain ⟨a, rfl⟩ : ∃ a, v = V.ref a := by cases r1'; exact ⟨_, rfl⟩
  have r3 := r1'
  cases r3 with
  | @ins _ _ dx vs _ h1 h2 =>
    refine ⟨a, dx, vs, rfl, g1.gh _ _ h1, h2.none l, ha b G1 H1 σ _ (o.gr g1) fun ws G2 H2 g2 r2 => ?_⟩
    obtain ⟨G3, g3, s3, r3⟩ := VRs.stb (G := G1) g2 r2 s
    exact ⟨G3, .ins C fs :: ds, .ret d, g3.gh, .cons (Rep.mono g3.gg _ r1') r3, k, fun v G' H' g r => q v G' H' ((g1.trans g3).trans g) r⟩
theorem xv_meth {m : Str} {R : List D → Res → Prop} {tr : TA} {xs : List Vd} {ds : List D} {C' : Addr} {fx : Option (List (Str × D))} (h : EV K ta ρ (.st (.ins C fs))) (l : fs.lookup m = none) (ha : AV K tr ρ xs) (s : Stbs xs ds) (k : R (.ins C fs :: ds) (.exc C' fx)) :
    XV K W (tMethW C m (spF K R) (WE W) ta tr) ρ C' fx := fun b G H σ Q o q => h b G H σ _ o fun v G1 H1 g1 r1 => by
  have r1' : Rep K G1 v (.ins C fs) := r1
  obtain ⟨a, rfl⟩ : ∃ a, v = V.ref a := by cases r1'; exact ⟨_, rfl⟩
  have r3 := r1'
  cases r3 with
  | @ins _ _ dx vs _ h1 h2 =>
    refine ⟨a, dx, vs, rfl, g1.gh _ _ h1, h2.none l, ha b G1 H1 σ _ (o.gr g1) fun ws G2 H2 g2 r2 => ?_⟩
    obtain ⟨G3, g3, s3, r3⟩ := VRs.stb (G := G1) g2 r2 s
    exact ⟨G3, .ins C fs :: ds, .exc C' fx, g3.gh, .cons (Rep.mono g3.gg _ r1') r3, k, fun od G' H' g r => q od G' H' ((g1.trans g3).trans g) r⟩

/-! ### objects made -/
theorem make_gr {G H G' H' : Hp} {p dx : Addr} {o1 o2 : HO} (n1 : H p = none) (n2 : H dx = none) (ne : dx ≠ p) (s : Same G H) (g : GrP p G (upd (upd H dx o1) p o2) G' H') : Gr G H G' H' ∧ G' p = none := by
  have f : ∀ a, G a = none → G' a ≠ none → a ≠ p ∧ H a = none := fun a ha k => by
    have e := g.fr a ha k
    by_cases q : a = p
    · rw [q, upd_same] at e; cases e
    · refine ⟨q, ?_⟩
      rw [upd_ne q] at e
      by_cases q2 : a = dx
      · rw [q2, upd_same] at e; cases e
      · rw [upd_ne q2] at e
        exact e
  refine ⟨⟨fun c u hc => g.hh c u (ne_of_none hc n1) ?_, g.gg, fun a ha k => (f a ha k).2, g.gh⟩, ?_⟩
  · rw [upd_ne (ne_of_none hc n1), upd_ne (ne_of_none hc n2)]
    exact hc
  · by_cases q : G' p = none
    · exact q
    · exact absurd rfl (f p (s.free n1) q).1
theorem same_make {G H : Hp} {p dx : Addr} {o1 o2 : HO} (n1 : H p = none) (n2 : H dx = none) (s : Same G H) : Same G (upd (upd H dx o1) p o2) := fun c u hc => by
  have e := s c u hc
  rw [upd_ne (ne_of_none e n1), upd_ne (ne_of_none e n2)]
  exact e
theorem ev_make {R : List (Str × D) → List D → Res → List (Str × D) → Prop} {E : L2.St → XK} {tr : TA} {xs : List Vd} {ds : List D} (ha : AV K tr ρ xs) (s : Stbs xs ds) (k : R [] ds (.ret .non) fs) : EV K (tMakeW C (spM K C R) E tr) ρ (.fi C fs) := fun b G H σ Q o q =>
  ha b G H σ _ o fun ws G1 H1 g1 r1 => by
    obtain ⟨G2, g2, s2, r2⟩ := VRs.stb (G := G) g1 r1 s
    intro p dx n1 n2 ne
    refine ⟨p, dx, ws, [], [], fs, G2, ds, .ret .non, rfl, upd_same, g2.gh.free n1, same_make n1 n2 g2.gh, .nil, r2, k, fun v G' H' fvs g hp rf rv => ⟨rep_non rv, ?_⟩⟩
    obtain ⟨g3, np⟩ := make_gr n1 n2 ne g2.gh g
    exact q _ G' H' (g2.trans g3) ⟨p, dx, fvs, rfl, g2.hh.free n1, np, hp, rf⟩
theorem xv_make {R : List (Str × D) → List D → Res → List (Str × D) → Prop} {tr : TA} {xs : List Vd} {ds : List D} {C' : Addr} {fx : Option (List (Str × D))} (ha : AV K tr ρ xs) (s : Stbs xs ds) (k : R [] ds (.exc C' fx) fs) :
    XV K W (tMakeW C (spM K C R) (WE W) tr) ρ C' fx := fun b G H σ Q o q =>
  ha b G H σ _ o fun ws G1 H1 g1 r1 => by
    obtain ⟨G2, g2, s2, r2⟩ := VRs.stb (G := G) g1 r1 s
    intro p dx n1 n2 ne
    refine ⟨p, dx, ws, [], [], fs, G2, ds, .exc C' fx, rfl, upd_same, g2.gh.free n1, same_make n1 n2 g2.gh, .nil, r2, k, fun od G' H' fvs g hp rf rv => ?_⟩
    obtain ⟨g3, np⟩ := make_gr n1 n2 ne g2.gh g
    exact q od G' H' (g2.trans g3) rv

/-! ### readings that change what a slot owns -/
def EE (K : Frag) (t : TE) (ρ : List Sl) (d : D) (ρ' : List Sl) : Prop := ∀ (b : Bs) (G H : Hp) (σ : L2.St) (Q : VK), Ok K b G H σ ρ → (∀ v G' H', Ok K b G' H' σ ρ' → Rep K G' v d → Q v H') → t σ H Q
def XX (K : Frag) (W : WX) (t : TE) (ρ : List Sl) (C : Addr) (fx : Option (List (Str × D))) (ρ' : List Sl) : Prop := ∀ (b : Bs) (G H : Hp) (σ : L2.St) (Q : VK), Ok K b G H σ ρ → (∀ od G' H', Ok K b G' H' σ ρ' → Exc K G' H' od fx → W (.ref C) od σ H') → t σ H Q
theorem ee_of (h : EV K t ρ x) (s : Stb x d) : EE K t ρ d ρ := fun b G H σ Q o q => h b G H σ _ o fun v G' H' g r => by
  obtain ⟨G2, g2, _, r2⟩ := r.stb g s
  exact q v G2 H' (o.gr g2) r2
theorem xx_of {fx : Option (List (Str × D))} (h : XV K W t ρ C fx) : XX K W t ρ C fx ρ := fun b G H σ Q o q => h b G H σ Q o fun od G' H' g r => q od G' H' (o.gr g) r
theorem Ok.own_ins {b : Bs} {G H : Hp} {σ : L2.St} (o : Ok K b G H σ ρ) {i : Nat} (h : ρ[i]? = some (Sl.ow (.ins C fs))) : ∃ a dx vs, σ[i]? = some (some (.ref a)) ∧ G a = none ∧ b.B a = none ∧ H a = some (.ins C dx vs) ∧ RepF K G vs fs ∧
    (∀ G1 H1 vs' fs', GrP a G H G1 H1 → H1 a = some (.ins C dx vs') → RepF K G1 vs' fs' → Ok K b G1 H1 σ (ρ.set i (Sl.ow (.ins C fs')))) := by
  obtain ⟨a, hh, h1, h2, h3, h4, h5, _, h7⟩ := o.own h
  cases hh with
  | ins C' dx vs =>
    obtain ⟨rfl, h6⟩ := h5
    exact ⟨a, dx, vs, h1, h2, h3, h4, h6, fun G1 H1 vs' fs' g e r => h7 G1 H1 _ _ (fun C dx vs e => by cases e; exact ⟨_, rfl⟩) (fun z => nomatch z) g.gg g.fr g.gh g.hh e ⟨rfl, r⟩⟩
  | _ => exact h5.elim
theorem Ok.own_lst {b : Bs} {G H : Hp} {σ : L2.St} {ds : List D} (o : Ok K b G H σ ρ) {i : Nat} (h : ρ[i]? = some (Sl.ow (.lst ds))) : ∃ a vs, σ[i]? = some (some (.ref a)) ∧ G a = none ∧ b.B a = none ∧ H a = some (.lst vs) ∧ Reps K G vs ds ∧
    (∀ ws es, Reps K G ws es → Ok K b G (upd H a (.lst ws)) σ (ρ.set i (Sl.ow (.lst es)))) := by
  obtain ⟨a, hh, h1, h2, h3, h4, h5, h6, _⟩ := o.own h
  cases hh with
  | lst vs => exact ⟨a, vs, h1, h2, h3, h4, h5, fun ws es r => h6 (.lst ws) (.lst es) r (fun C dx vs e => by cases e) (fun z => nomatch z)⟩
  | _ => exact h5.elim
/-- a method of an owned object -/
theorem ee_methO {i : Nat} {m : Str} {R : List (Str × D) → List D → Res → List (Str × D) → Prop} {E : L2.St → XK} {tr : TA} {xs : List Vd} {ds : List D} {fs' : List (Str × D)} (h : ρ[i]? = some (Sl.ow (.ins C fs))) (l : fs.lookup m = none) (ha : AV K tr ρ xs) (s : Stbs xs ds)
    (k : R fs ds (.ret d) fs') : EE K (tMethW C m (spM K C R) E (tVar i) tr) ρ d (ρ.set i (Sl.ow (.ins C fs'))) := fun b G H σ Q o q => by
  obtain ⟨a, dx, vs, h1, h2, h3, h4, h5, _⟩ := o.own_ins h
  refine ⟨_, h1, a, dx, vs, rfl, h4, h5.none l, ha b G H σ _ o fun ws G1 H1 g1 r1 => ?_⟩
  obtain ⟨G2, g2, s2, r2⟩ := VRs.stb (G := G) g1 r1 s
  obtain ⟨a', dx', vs', k1, k2, k3, k4, k5, k6⟩ := (o.gr g2).own_ins h
  obtain rfl : a = a' := by rw [h1] at k1; simpa using k1
  exact ⟨a, dx', ws, vs', fs, fs', G2, ds, .ret d, rfl, k4, k2, g2.gh, k5, r2, k, fun v G' H' fvs g hp rf rv => q v G' H' (k6 G' H' _ _ g hp rf) rv⟩
theorem xx_methO {i : Nat} {m : Str} {R : List (Str × D) → List D → Res → List (Str × D) → Prop} {tr : TA} {xs : List Vd} {ds : List D} {fs' : List (Str × D)} {C' : Addr} {fx : Option (List (Str × D))} (h : ρ[i]? = some (Sl.ow (.ins C fs))) (l : fs.lookup m = none) (ha : AV K tr ρ xs) (s : Stbs xs ds)
    (k : R fs ds (.exc C' fx) fs') : XX K W (tMethW C m (spM K C R) (WE W) (tVar i) tr) ρ C' fx (ρ.set i (Sl.ow (.ins C fs'))) := fun b G H σ Q o q => by
  obtain ⟨a, dx, vs, h1, h2, h3, h4, h5, _⟩ := o.own_ins h
  refine ⟨_, h1, a, dx, vs, rfl, h4, h5.none l, ha b G H σ _ o fun ws G1 H1 g1 r1 => ?_⟩
  obtain ⟨G2, g2, s2, r2⟩ := VRs.stb (G := G) g1 r1 s
  obtain ⟨a', dx', vs', k1, k2, k3, k4, k5, k6⟩ := (o.gr g2).own_ins h
  obtain rfl : a = a' := by rw [h1] at k1; simpa using k1
  exact ⟨a, dx', ws, vs', fs, fs', G2, ds, .exc C' fx, rfl, k4, k2, g2.gh, k5, r2, k, fun od G' H' fvs g hp rf rv => q od G' H' (k6 G' H' _ _ g hp rf) rv⟩
/-- an argument raises -/
def XA (K : Frag) (W : WX) (t : TA) (ρ : List Sl) (C : Addr) (fx : Option (List (Str × D))) : Prop := ∀ (b : Bs) (G H : Hp) (σ : L2.St) (Q : List V → Hp → Prop), Ok K b G H σ ρ → (∀ od G' H', Gr G H G' H' → Exc K G' H' od fx → W (.ref C) od σ H') → t σ H Q
theorem xa_head {tr : TA} {fx : Option (List (Str × D))} (h : XV K W t ρ C fx) : XA K W (tCons t tr) ρ C fx := fun b G H σ Q o q => h b G H σ _ o q
theorem xa_tail {tr : TA} {fx : Option (List (Str × D))} (h : EV K t ρ x) (hr : XA K W tr ρ C fx) : XA K W (tCons t tr) ρ C fx := fun b G H σ Q o q => h b G H σ _ o fun v G1 H1 g1 r1 =>
  hr b G1 H1 σ _ (o.gr g1) fun od G' H' g r => q od G' H' (g1.trans g) r
theorem xx_methO_arg {i : Nat} {m : Str} {sp : Sp} {E : L2.St → XK} {tr : TA} {C' : Addr} {fx : Option (List (Str × D))} (h : ρ[i]? = some (Sl.ow (.ins C fs))) (l : fs.lookup m = none) (ha : XA K W tr ρ C' fx) : XX K W (tMethW C m sp E (tVar i) tr) ρ C' fx ρ := fun b G H σ Q o q => by
  obtain ⟨a, dx, vs, h1, h2, h3, h4, h5, _⟩ := o.own_ins h
  exact ⟨_, h1, a, dx, vs, rfl, h4, h5.none l, ha b G H σ _ o fun od G' H' g r => q od G' H' (o.gr g) r⟩
theorem xv_call_arg {sp : Sp} {E : L2.St → XK} {tr : TA} {C' : Addr} {fx : Option (List (Str × D))} (ha : XA K W tr ρ C' fx) : XV K W (tCallS sp E tr) ρ C' fx := fun b G H σ Q o q => ha b G H σ _ o q
/-- a def whose first argument is an owned object -/
theorem ee_callO {i : Nat} {R : List (Str × D) → List D → Res → List (Str × D) → Prop} {E : L2.St → XK} {tr : TA} {xs : List Vd} {ds : List D} {fs' : List (Str × D)} (h : ρ[i]? = some (Sl.ow (.ins C fs))) (ha : AV K tr ρ xs) (s : Stbs xs ds)
    (k : R fs ds (.ret d) fs') : EE K (tCallS (spM K C R) E (tCons (tVar i) tr)) ρ d (ρ.set i (Sl.ow (.ins C fs'))) := fun b G H σ Q o q => by
  obtain ⟨a, dx, vs, h1, h2, h3, h4, h5, _⟩ := o.own_ins h
  refine ⟨_, h1, ha b G H σ _ o fun ws G1 H1 g1 r1 => ?_⟩
  obtain ⟨G2, g2, s2, r2⟩ := VRs.stb (G := G) g1 r1 s
  obtain ⟨a', dx', vs', k1, k2, k3, k4, k5, k6⟩ := (o.gr g2).own_ins h
  obtain rfl : a = a' := by rw [h1] at k1; simpa using k1
  exact ⟨a, dx', ws, vs', fs, fs', G2, ds, .ret d, rfl, k4, k2, g2.gh, k5, r2, k, fun v G' H' fvs g hp rf rv => q v G' H' (k6 G' H' _ _ g hp rf) rv⟩
/-- xs.append(e), xs.pop(), xs.pop(i), xs owned -/
theorem ee_append {i : Nat} {ds0 ds : List D} (h0 : ρ[i]? = some (Sl.ow (.lst ds0))) (ht : EE K t ρ d ρ') (h : ρ'[i]? = some (Sl.ow (.lst ds))) (hl : ds.length < sizeLine) :
    EE K (tBM K "list" rAppend (tVar i) (tCons t tNil)) ρ .non (ρ'.set i (Sl.ow (.lst (ds ++ [d])))) := fun b G H σ Q o q => by
  obtain ⟨a, vs, h1, h2, h3, h4, h5, _⟩ := o.own_lst h0
  refine ⟨_, h1, .inl ⟨rfl, vs, SqL.of h4⟩, ht b G H σ _ o fun v G1 H1 o1 r1 => ?_⟩
  obtain ⟨a', vs', k1, k2, k3, k4, k5, k6⟩ := o1.own_lst h
  obtain rfl : a = a' := by rw [h1] at k1; simpa using k1
  exact ⟨a, vs', v, rfl, rfl, k4, by rw [k5.length]; exact hl, q _ _ _ (k6 _ _ (k5.snoc r1)) .non⟩
theorem ee_pop {i : Nat} {ds : List D} (h : ρ[i]? = some (Sl.ow (.lst (ds ++ [d])))) : EE K (tBM0 K "list" rPop (tVar i)) ρ d (ρ.set i (Sl.ow (.lst ds))) := fun b G H σ Q o q => by
  obtain ⟨a, vs, h1, h2, h3, h4, h5, h6⟩ := o.own_lst h
  have hl : vs.length = ds.length + 1 := by rw [h5.length, List.length_append]; rfl
  obtain ⟨v, e1, e2⟩ := h5.get (i := ds.length) (d := d) (by simp)
  refine ⟨_, h1, .inl ⟨rfl, vs, SqL.of h4⟩, a, vs, v, rfl, rfl, h4, by rw [hl]; exact e1, q v _ _ (h6 vs.dropLast ds ?_) e2⟩
  have := h5.take ds.length
  rw [List.take_left] at this
  rw [List.dropLast_eq_take, hl]
  exact this
theorem ee_popAt {i : Nat} {ds : List D} {j : Int} {k : Nat} (ht : EV K t ρ (.st (.int j))) (h : ρ[i]? = some (Sl.ow (.lst ds))) (h1 : -(2 ^ 63) ≤ j) (h2 : j < 2 ^ 63) (hk : seqIndex? j ds.length = some k) (hd : ds[k]? = some d)
    (he : ∀ G vs, Reps K G vs ds → Reps K G (vs.eraseIdx k) (ds.eraseIdx k)) : EE K (tBM K "list" rPopAt (tVar i) (tCons t tNil)) ρ d (ρ.set i (Sl.ow (.lst (ds.eraseIdx k)))) := fun b G H σ Q o q => by
  obtain ⟨a, vs, e1, e2, e3, e4, e5, _⟩ := o.own_lst h
  refine ⟨_, e1, .inl ⟨rfl, vs, SqL.of e4⟩, ht b G H σ _ o fun v G1 H1 g1 r1 => ?_⟩
  obtain rfl := rep_int r1
  obtain ⟨a', vs', k1, k2, k3, k4, k5, k6⟩ := (o.gr g1).own_lst h
  obtain rfl : a = a' := by rw [e1] at k1; simpa using k1
  obtain ⟨w, w1, w2⟩ := k5.get hd
  exact ⟨a, vs', j, k, w, rfl, rfl, k4, h1, h2, by rw [k5.length]; exact hk, w1, q w _ _ (k6 _ _ (he _ _ k5)) w2⟩
end

/-! ### statements -/
/-- how a statement ends -/
inductive Oc where
  | nx (ρ : List Sl)
  | bk (ρ : List Sl)
  | ct (ρ : List Sl)
  | rt (d : D) (ρ : List Sl)
  | ex (C : Addr) (fx : Option (List (Str × D))) (ρ : List Sl)
def Post (K : Frag) (b : Bs) (D : Ends) (W : WX) : Oc → Prop
  | .nx ρ => ∀ σ G H, Ok K b G H σ ρ → D.nx σ H
  | .bk ρ => ∀ σ G H, Ok K b G H σ ρ → D.bk σ H
  | .ct ρ => ∀ σ G H, Ok K b G H σ ρ → D.ct σ H
  | .rt d ρ => ∀ v σ G H, Ok K b G H σ ρ → Rep K G v d → D.rt v H
  | .ex C fx ρ => ∀ od σ G H, Ok K b G H σ ρ → Exc K G H od fx → W (.ref C) od σ H
def SV (K : Frag) (W : WX) (t : TS) (ρ : List Sl) (P : Oc → Prop) : Prop := ∀ (b : Bs) (G H : Hp) (σ : L2.St) (D : Ends), Ok K b G H σ ρ → (∀ o, P o → Post K b D W o) → t D σ H
/-- what is wanted ahead of u, if P is wanted behind it -/
def Thn (K : Frag) (W : WX) (u : TS) (P : Oc → Prop) : Oc → Prop
  | .nx ρ => SV K W u ρ P
  | o => P o
section
variable {K : Frag} {ρ ρ' : List Sl} {t u : TS} {te : TE} {x y z : Vd} {d e : D} {W : WX} {C : Addr} {fs : List (Str × D)} {P P' : Oc → Prop}
theorem sv_imp (h : SV K W t ρ P) (k : ∀ o, P o → P' o) : SV K W t ρ P' := fun b G H σ D o q => h b G H σ D o fun c hc => q c (k c hc)
theorem sv_seq (h : SV K W t ρ (Thn K W u P)) : SV K W (tSeq t u) ρ P := fun b G H σ D o q => h b G H σ _ o fun c hc => by
  cases c with
  | nx ρ' => exact fun σ' G' H' o' => hc b G' H' σ' D o' q
  | bk ρ' => exact q _ hc
  | ct ρ' => exact q _ hc
  | rt d ρ' => exact q _ hc
  | ex C fx ρ' => exact q _ hc
theorem sv_next (h : P (.nx ρ)) : SV K W tNext ρ P := fun b G H σ D o q => q _ h σ G H o
theorem sv_break (h : P (.bk ρ)) : SV K W tBreak ρ P := fun b G H σ D o q => q _ h σ G H o
theorem sv_cont (h : P (.ct ρ)) : SV K W tCont ρ P := fun b G H σ D o q => q _ h σ G H o
/-- x = e -/
theorem sv_set {i : Nat} (h : EE K te ρ d ρ') (k : P (.nx (ρ'.set i (Sl.im d)))) : SV K W (tAsg te (gName i)) ρ P := fun b G H σ D o q => h b G H σ _ o fun v G' H' o' r => q _ k _ G' H' (o'.set i r)
theorem sv_setV {i : Nat} (h : EV K te ρ x) (s : Stb x d) (k : P (.nx (ρ.set i (Sl.im d)))) : SV K W (tAsg te (gName i)) ρ P := sv_set (ee_of h s) k
/-- a new list, a new instance, owned by its slot -/
theorem sv_setF {i : Nat} {ds : List D} (h : EV K te ρ (.fr ds)) (hi : i < ρ.length) (k : P (.nx (ρ.set i (Sl.ow (.lst ds))))) : SV K W (tAsg te (gName i)) ρ P := fun b G H σ D o q => h b G H σ _ o fun v G' H' g r => by
  obtain ⟨a, vs, rfl, n0, ng, hh, hr⟩ := r
  exact q _ k _ G' H' (Ok.setOwn o (o.gr g) i hi (h := .lst vs) n0 ng hh hr (.inr rfl) rfl)
theorem sv_setI {i : Nat} (h : EV K te ρ (.fi C fs)) (hi : i < ρ.length) (h0 : i ≠ 0) (k : P (.nx (ρ.set i (Sl.ow (.ins C fs))))) : SV K W (tAsg te (gName i)) ρ P := fun b G H σ D o q => h b G H σ _ o fun v G' H' g r => by
  obtain ⟨a, dx, vs, rfl, n0, ng, hh, hr⟩ := r
  exact q _ k _ G' H' (Ok.setOwn o (o.gr g) i hi (h := .ins C dx vs) n0 ng hh ⟨rfl, hr⟩ (.inl h0) rfl)
theorem sv_setX {i : Nat} {fx : Option (List (Str × D))} (h : XX K W te ρ C fx ρ') (k : P (.ex C fx ρ')) : SV K W (tAsg te (gName i)) ρ P := fun b G H σ D o q => h b G H σ _ o fun od G' H' o' r => q _ k od σ G' H' o' r
/-- an owned list is let be -/
theorem sv_freeze (i : Nat) {ds : List D} (h : ρ[i]? = some (Sl.ow (.lst ds))) (k : SV K W t (ρ.set i (Sl.im (.lst ds))) P) : SV K W t ρ P := fun b G H σ D o q => by
  obtain ⟨G', o'⟩ := o.freeze h
  exact k b G' H σ D o' q
/-- a, b, .. = a tuple -/
def GV (K : Frag) (g : TGs) (ds : List D) (ρ ρ' : List Sl) : Prop := ∀ (b : Bs) (G H : Hp) (σ : L2.St) (vs : List V) (Q : L2.St → Hp → Prop), Ok K b G H σ ρ → Reps K G vs ds → (∀ σ', Ok K b G H σ' ρ' → Q σ' H) → g vs σ H Q
theorem gv_nil : GV K gNil [] ρ ρ := fun b G H σ vs Q o r q => by cases r; exact ⟨rfl, q σ o⟩
theorem gv_cons {i : Nat} {g : TGs} {ds : List D} (h : GV K g ds (ρ.set i (Sl.im d)) ρ') : GV K (gCons (gName i) g) (d :: ds) ρ ρ' := fun b G H σ vs Q o r q => by
  cases r with
  | cons a r => exact ⟨_, _, rfl, h b G H _ _ Q (o.set i a) r q⟩
theorem sv_tup {n : Nat} {g : TGs} {ds : List D} (h : EE K te ρ (.tup ds) ρ') (hn : ds.length = n) (hg : GV K g ds ρ' ρ'') (k : P (.nx ρ'')) : SV K W (tAsg te (gTup K n g)) ρ P := fun b G H σ D o q => h b G H σ _ o fun v G' H' o' r => by
  cases r with
  | @tup a vs _ h1 h2 => exact ⟨a, vs, rfl, sqt_mono o'.gh h1, by rw [h2.length]; exact hn, hg b G' H' σ vs _ o' h2 fun σ' o2 => q _ k σ' G' H' o2⟩
/-- a, b = x, y (both written) -/
theorem sv_par {i j : Nat} {ta : TA} {d1 d2 : D} (ha : AV K ta ρ [x, y]) (s : Stbs [x, y] [d1, d2]) (k : P (.nx ((ρ.set i (Sl.im d1)).set j (Sl.im d2)))) : SV K W (tPar i j ta) ρ P := fun b G H σ D o q =>
  ha b G H σ _ o fun vs G1 H1 g1 r1 => by
    obtain ⟨G2, g2, s2, r2⟩ := VRs.stb (G := G) g1 r1 s
    cases r2 with
    | cons a r =>
      cases r with
      | cons c r =>
        cases r
        exact ⟨_, _, rfl, q _ k _ G2 H1 (((o.gr g2).set i a).set j c)⟩
theorem sv_if {c : TT} {k : Bool} (h : TV K c ρ k) (h1 : k = true → SV K W t ρ P) (h2 : k = false → SV K W u ρ P) : SV K W (tIfS c t u) ρ P := fun b G H σ D o q => h b G H σ _ o fun G' H' g => by
  cases k with
  | true =>
    show t D σ H'
    exact h1 rfl b G' H' σ D (o.gr g) q
  | false =>
    show u D σ H'
    exact h2 rfl b G' H' σ D (o.gr g) q
theorem sv_ret (h : EE K te ρ d ρ') (k : P (.rt d ρ')) : SV K W (tRet te) ρ P := fun b G H σ D o q => h b G H σ _ o fun v G' H' o' r => q _ k v σ G' H' o' r
theorem sv_retV (h : EV K te ρ x) (s : Stb x d) (k : P (.rt d ρ)) : SV K W (tRet te) ρ P := sv_ret (ee_of h s) k
theorem sv_retX {fx : Option (List (Str × D))} (h : XX K W te ρ C fx ρ') (k : P (.ex C fx ρ')) : SV K W (tRet te) ρ P := fun b G H σ D o q => h b G H σ _ o fun od G' H' o' r => q _ k od σ G' H' o' r
theorem sv_retN (k : P (.rt .non ρ)) : SV K W tRetN ρ P := fun b G H σ D o q => q _ k .non σ G H o .non
theorem sv_drop (h : EE K te ρ d ρ') (k : P (.nx ρ')) : SV K W (tDrop te) ρ P := fun b G H σ D o q => h b G H σ _ o fun v G' H' o' r => q _ k σ G' H' o'
theorem sv_dropX {fx : Option (List (Str × D))} (h : XX K W te ρ C fx ρ') (k : P (.ex C fx ρ')) : SV K W (tDrop te) ρ P := fun b G H σ D o q => h b G H σ _ o fun od G' H' o' r => q _ k od σ G' H' o' r
/-- self.f = e -/
theorem sv_fld {i : Nat} {f : Str} (h : EV K te ρ x) (s : Stb x d) (hi : ρ[i]? = some (Sl.ow (.ins C fs))) (c : Cls K C) (n : NoAttr K C f) (hl : fs.length < 1000) (k : P (.nx (ρ.set i (Sl.ow (.ins C (putD f d fs)))))) : SV K W (sFld K (tVar i) te f) ρ P := fun b G H σ D o q =>
  h b G H σ _ o fun v G' H' g r => by
    obtain ⟨G2, g2, _, r2⟩ := r.stb g s
    obtain ⟨a, dx, vs, h1, h2, h3, h4, h5, h6⟩ := (o.gr g2).own_ins hi
    refine ⟨_, h1, a, C, dx, vs, rfl, h4, c, n, by rw [h5.length]; exact hl, q _ k σ G2 _ (h6 G2 _ (putF f v vs) (putD f d fs) ⟨fun z u hz hu => ?_, Same.refl _, fun z hz k => absurd hz k, fun z u hz => ?_⟩ upd_same (RepF.put r2 h5))⟩
    · rw [upd_ne hz]
      exact hu
    · rw [upd_ne (ne_of_none hz h2)]
      exact g2.gh z u hz

/-! ### loops -/
/-- the base moved up to where one stands -/
theorem Ok.rebase {b : Bs} {G H : Hp} {σ : L2.St} (o : Ok K b G H σ ρ) : Ok K ⟨b.B, G, b.me, b.mo⟩ G H σ ρ := ⟨Same.refl _, fun a h k => absurd h k, o.gh, o.bh, o.len, o.im, o.ow, o.mine, o.marks⟩
theorem Ok.unbase {b : Bs} {G0 H0 G H : Hp} {σ0 σ : L2.St} {ρ0 : List Sl} (o0 : Ok K b G0 H0 σ0 ρ0) (o : Ok K ⟨b.B, G0, b.me, b.mo⟩ G H σ ρ) : Ok K b G H σ ρ :=
  ⟨o0.g0.trans o.g0, fun a h k => by
    by_cases q : G0 a = none
    · exact o.fr a q k
    · exact o0.fr a h q, o.gh, o.bh, o.len, o.im, o.ow, o.mine, o.marks⟩
theorem Post.unbase {b : Bs} {G0 H0 : Hp} {σ0 : L2.St} {ρ0 : List Sl} {D : Ends} (o0 : Ok K b G0 H0 σ0 ρ0) : ∀ {c : Oc}, Post K b D W c → Post K ⟨b.B, G0, b.me, b.mo⟩ D W c
  | .nx ρ, h => fun σ G H o => h σ G H (o0.unbase o)
  | .bk ρ, h => fun σ G H o => h σ G H (o0.unbase o)
  | .ct ρ, h => fun σ G H o => h σ G H (o0.unbase o)
  | .rt d ρ, h => fun v σ G H o => h v σ G H (o0.unbase o)
  | .ex C fx ρ, h => fun od σ G H o => h od σ G H (o0.unbase o)
/-- a target that takes one datum -/
def G1 (K : Frag) (g : TG) (d : D) (ρ ρ' : List Sl) : Prop := ∀ (b : Bs) (G H : Hp) (σ : L2.St) (v : V) (Q : L2.St → Hp → Prop), Ok K b G H σ ρ → Rep K G v d → (∀ σ', Ok K b G H σ' ρ' → Q σ' H) → g v σ H Q
theorem g1_name {i : Nat} : G1 K (gName i) d ρ (ρ.set i (Sl.im d)) := fun b G H σ v Q o r q => q _ (o.set i r)
theorem g1_tup {n : Nat} {g : TGs} {ds : List D} (hn : ds.length = n) (h : GV K g ds ρ ρ') : G1 K (gTup K n g) (.tup ds) ρ ρ' := fun b G H σ v Q o r q => by
  cases r with
  | @tup a vs _ h1 h2 => exact ⟨a, vs, rfl, sqt_mono o.gh h1, by rw [h2.length]; exact hn, h b G H σ vs Q o h2 q⟩
/-- behind a turn: the invariant of the next one; or out of the loop -/
def Lp (I : Nat → List Sl → Prop) (i : Nat) (N : List Sl → Prop) (P : Oc → Prop) : Oc → Prop
  | .nx ρ => I (i + 1) ρ
  | .ct ρ => I (i + 1) ρ
  | .bk ρ => N ρ
  | o => P o
theorem sv_forL {g : TG} {tb : TS} {ds : List D} (I : Nat → List Sl → Prop) (hw : EV K te ρ x) (s : Stb x (.lst ds)) (h0 : I 0 ρ)
    (hs : ∀ i d ρ1, ds[i]? = some d → I i ρ1 → ∃ ρ2, G1 K g d ρ1 ρ2 ∧ SV K W tb ρ2 (Lp I i (fun ρ => P (.nx ρ)) P))
    (hd : ∀ ρ1, I ds.length ρ1 → P (.nx ρ1)) : SV K W (tFor (iList K te) g tb) ρ P := fun b G H σ D o q => hw b G H σ _ o fun v G' H' gr r => by
  obtain ⟨G2, g2, _, r2⟩ := r.stb gr s
  have o2 := o.gr g2
  cases r2 with
  | @lst a vs _ h1 h2 =>
    have hl := h2.length
    refine ⟨a, rfl, ⟨vs, sql_mono g2.gh h1⟩, for_list (K := K) (a := a) (xs := vs) (fun i σ H => ∃ ρ G, I i ρ ∧ Ok K ⟨b.B, G2, b.me, b.mo⟩ G H σ ρ) ⟨ρ, G2, h0, o2.rebase⟩ (fun i σ H _ ⟨ρ, G, _, o3⟩ => sql_mono (o3.g0.trans o3.gh) h1) ?_ ?_⟩
    · rintro i w σ1 H1 hi ⟨ρ1, G1, hI, o3⟩
      obtain ⟨d, hd1, hr⟩ := h2.getV hi
      obtain ⟨ρ2, hg, hb⟩ := hs i d ρ1 hd1 hI
      refine hg _ G1 H1 σ1 w _ o3 (Rep.mono o3.g0 d hr) fun σ2 o4 => hb ⟨b.B, G2, b.me, b.mo⟩ G1 H1 σ2 _ o4 fun c hc => ?_
      cases c with
      | nx ρ' => exact fun σ' G' H' o' => ⟨ρ', G', hc, o'⟩
      | ct ρ' => exact fun σ' G' H' o' => ⟨ρ', G', hc, o'⟩
      | bk ρ' => exact fun σ' G' H' o' => q _ hc σ' G' H' (o2.unbase o')
      | rt d ρ' => exact fun v σ' G' H' o' => q _ hc v σ' G' H' (o2.unbase o')
      | ex C fx ρ' => exact fun od σ' G' H' o' => q _ hc od σ' G' H' (o2.unbase o')
    · rintro σ1 H1 ⟨ρ1, G1, hI, o3⟩
      rw [hl] at hI
      exact q _ (hd ρ1 hI) σ1 G1 H1 (o2.unbase o3)
theorem sv_forT {g : TG} {tb : TS} {ds : List D} (I : Nat → List Sl → Prop) (hw : EV K te ρ x) (s : Stb x (.tup ds)) (h0 : I 0 ρ)
    (hs : ∀ i d ρ1, ds[i]? = some d → I i ρ1 → ∃ ρ2, G1 K g d ρ1 ρ2 ∧ SV K W tb ρ2 (Lp I i (fun ρ => P (.nx ρ)) P))
    (hd : ∀ ρ1, I ds.length ρ1 → P (.nx ρ1)) : SV K W (tFor (iTup K te) g tb) ρ P := fun b G H σ D o q => hw b G H σ _ o fun v G' H' gr r => by
  obtain ⟨G2, g2, _, r2⟩ := r.stb gr s
  have o2 := o.gr g2
  cases r2 with
  | @tup a vs _ h1 h2 =>
    have hl := h2.length
    refine ⟨a, rfl, ⟨vs, sqt_mono g2.gh h1⟩, for_tup (K := K) (a := a) (xs := vs) (fun i σ H => ∃ ρ G, I i ρ ∧ Ok K ⟨b.B, G2, b.me, b.mo⟩ G H σ ρ) ⟨ρ, G2, h0, o2.rebase⟩ (fun i σ H _ ⟨ρ, G, _, o3⟩ => sqt_mono (o3.g0.trans o3.gh) h1) ?_ ?_⟩
    · rintro i w σ1 H1 hi ⟨ρ1, G1, hI, o3⟩
      obtain ⟨d, hd1, hr⟩ := h2.getV hi
      obtain ⟨ρ2, hg, hb⟩ := hs i d ρ1 hd1 hI
      refine hg _ G1 H1 σ1 w _ o3 (Rep.mono o3.g0 d hr) fun σ2 o4 => hb ⟨b.B, G2, b.me, b.mo⟩ G1 H1 σ2 _ o4 fun c hc => ?_
      cases c with
      | nx ρ' => exact fun σ' G' H' o' => ⟨ρ', G', hc, o'⟩
      | ct ρ' => exact fun σ' G' H' o' => ⟨ρ', G', hc, o'⟩
      | bk ρ' => exact fun σ' G' H' o' => q _ hc σ' G' H' (o2.unbase o')
      | rt d ρ' => exact fun v σ' G' H' o' => q _ hc v σ' G' H' (o2.unbase o')
      | ex C fx ρ' => exact fun od σ' G' H' o' => q _ hc od σ' G' H' (o2.unbase o')
    · rintro σ1 H1 ⟨ρ1, G1, hI, o3⟩
      rw [hl] at hI
      exact q _ (hd ρ1 hI) σ1 G1 H1 (o2.unbase o3)
theorem sv_forR1 {g : TG} {tb : TS} {n : Int} (I : Nat → List Sl → Prop) (hw : EV K te ρ (.st (.int n))) (hn : -(2 ^ 62) ≤ n ∧ n < 2 ^ 62) (h0 : I 0 ρ)
    (hs : ∀ (i : Nat) ρ1, (i : Int) < n → I i ρ1 → ∃ ρ2, G1 K g (.int i) ρ1 ρ2 ∧ SV K W tb ρ2 (Lp I i (fun ρ => P (.nx ρ)) P))
    (hd : ∀ ρ1, I n.toNat ρ1 → P (.nx ρ1)) : SV K W (tFor (iRng1 (tCons te tNil)) g tb) ρ P := fun b G H σ D o q => hw b G H σ _ o fun v G' H' gr r => by
  obtain rfl := rep_int r
  have o2 := o.gr gr
  refine ⟨n, rfl, hn.1, hn.2, for_range (lo := 0) (n := n.toNat) (fun i σ H => ∃ ρ G, I i ρ ∧ Ok K ⟨b.B, G', b.me, b.mo⟩ G H σ ρ) ⟨ρ, G', h0, o2.rebase⟩ ?_ ?_⟩
  · rintro i σ1 H1 hi ⟨ρ1, G1, hI, o3⟩
    obtain ⟨ρ2, hg, hb⟩ := hs i ρ1 (by omega) hI
    rw [Int.zero_add]
    refine hg _ G1 H1 σ1 _ _ o3 (.int i) fun σ2 o4 => hb ⟨b.B, G', b.me, b.mo⟩ G1 H1 σ2 _ o4 fun c hc => ?_
    cases c with
    | nx ρ' => exact fun σ' G' H' o' => ⟨ρ', G', hc, o'⟩
    | ct ρ' => exact fun σ' G' H' o' => ⟨ρ', G', hc, o'⟩
    | bk ρ' => exact fun σ' G' H' o' => q _ hc σ' G' H' (o2.unbase o')
    | rt d ρ' => exact fun v σ' G' H' o' => q _ hc v σ' G' H' (o2.unbase o')
    | ex C fx ρ' => exact fun od σ' G' H' o' => q _ hc od σ' G' H' (o2.unbase o')
  · rintro σ1 H1 ⟨ρ1, G1, hI, o3⟩
    exact q _ (hd ρ1 hI) σ1 G1 H1 (o2.unbase o3)
/-- while: what holds at each test, with a measure -/
def Wh (I : Nat → List Sl → Prop) (m : Nat) (N : List Sl → Prop) (P : Oc → Prop) : Oc → Prop
  | .nx ρ => ∃ k, k < m ∧ I k ρ
  | .ct ρ => ∃ k, k < m ∧ I k ρ
  | .bk ρ => N ρ
  | o => P o
theorem sv_while {c : TT} {tb : TS} (I : Nat → List Sl → Prop) (m0 : Nat) (h0 : I m0 ρ)
    (hs : ∀ m ρ1, I m ρ1 → ∃ k, TV K c ρ1 k ∧ (k = true → SV K W tb ρ1 (Wh I m (fun ρ => P (.nx ρ)) P)) ∧ (k = false → P (.nx ρ1))) : SV K W (tWhile c tb) ρ P := fun b G H σ D o q => by
  refine ⟨fun m σ H => ∃ ρ G, I m ρ ∧ Ok K b G H σ ρ, ⟨m0, ρ, G, h0, o⟩, ?_⟩
  rintro m σ1 H1 ⟨ρ1, G1, hI, o1⟩
  obtain ⟨k, hc, ht, hf⟩ := hs m ρ1 hI
  refine hc b G1 H1 σ1 _ o1 fun G' H' g => ?_
  cases k with
  | true =>
    rw [if_pos rfl]
    refine ⟨fun σ' H' => ∃ m', m' < m ∧ ∃ ρ G, I m' ρ ∧ Ok K b G H' σ' ρ, fun σ' H' ⟨m', hm, r⟩ => ⟨m', hm, r⟩, ht rfl b G' H' σ1 _ (o1.gr g) fun cc hcc => ?_⟩
    cases cc with
    | nx ρ' => obtain ⟨k, hk, hI'⟩ := hcc; exact fun σ' G' H' o' => ⟨k, hk, ρ', G', hI', o'⟩
    | ct ρ' => obtain ⟨k, hk, hI'⟩ := hcc; exact fun σ' G' H' o' => ⟨k, hk, ρ', G', hI', o'⟩
    | bk ρ' => exact fun σ' G' H' o' => q _ hcc σ' G' H' o'
    | rt d ρ' => exact q _ hcc
    | ex C fx ρ' => exact q _ hcc
  | false =>
    rw [if_neg Bool.false_ne_true]
    exact q _ (hf rfl) σ1 G' H' (o1.gr g)
end
end DL

set_option maxRecDepth 100000
set_option maxHeartbeats 4000000
/-! The data layer, part e: from a body to a def's promise; defs and classes by name. -/
namespace DL
open PySem L2

def start0 (N : List Str) (ds : List D) : List Sl := ds.map Sl.im ++ List.replicate (N.length - ds.length) Sl.un
def startM (N : List Str) (C : Addr) (fs : List (Str × D)) (ds : List D) : List Sl := Sl.ow (.ins C fs) :: (ds.map Sl.im ++ List.replicate (N.length - (ds.length + 1)) Sl.un)
def FinF (r : Res) : Oc → Prop
  | .nx _ => r = .ret .non
  | .rt d _ => r = .ret d
  | .ex C fx _ => r = .exc C fx
  | _ => False
def FinM (r : Res) (C : Addr) (fs : List (Str × D)) : Oc → Prop
  | .nx ρ => r = .ret .non ∧ ρ[0]? = some (Sl.ow (.ins C fs))
  | .rt d ρ => r = .ret d ∧ ρ[0]? = some (Sl.ow (.ins C fs))
  | .ex C' fx ρ => r = .exc C' fx ∧ ρ[0]? = some (Sl.ow (.ins C fs))
  | _ => False
def hide (p : Addr) (H : Hp) : Hp := fun z => if z = p then none else H z
theorem hide_same {p : Addr} {H : Hp} : hide p H p = none := if_pos rfl
theorem hide_ne {p z : Addr} {H : Hp} (h : z ≠ p) : hide p H z = H z := if_neg h
theorem hide_sub {p : Addr} {H : Hp} : Same (hide p H) H := fun z u h => by
  by_cases q : z = p
  · rw [q, hide_same] at h; cases h
  · rw [hide_ne q] at h
    exact h
section
variable {K : Frag} {G H : Hp} {vs : List V} {ds : List D}
theorem im_start {n m : Nat} (r : Reps K G vs ds) (i : Nat) (d : D) (h : (ds.map Sl.im ++ List.replicate n Sl.un)[i]? = some (Sl.im d)) : ∃ v, (vs.map some ++ List.replicate m (none : Option V))[i]? = some (some v) ∧ Rep K G v d := by
  have hl := r.length
  by_cases q : i < ds.length
  · rw [List.getElem?_append_left (by simpa using q), List.getElem?_map] at h
    cases e : ds[i]? with
    | none => rw [e] at h; cases h
    | some d' =>
      rw [e] at h
      have e2 : d' = d := by simpa using h
      subst e2
      obtain ⟨v, h1, h2⟩ := r.get e
      exact ⟨v, by rw [List.getElem?_append_left (by simpa [hl] using q), List.getElem?_map, h1]; rfl, h2⟩
  · rw [List.getElem?_append_right (by simpa using q), List.getElem?_replicate] at h
    split at h <;> cases h
theorem ow_start {n : Nat} (i : Nat) (o : OD) (h : (ds.map Sl.im ++ List.replicate n Sl.un)[i]? = some (Sl.ow o)) : False := by
  by_cases q : i < ds.length
  · rw [List.getElem?_append_left (by simpa using q), List.getElem?_map] at h
    cases e : ds[i]? with
    | none => rw [e] at h; cases h
    | some d' => rw [e] at h; cases h
  · rw [List.getElem?_append_right (by simpa using q), List.getElem?_replicate] at h
    split at h <;> cases h
theorem ok_start (N : List Str) (s : Same G H) (r : Reps K G vs ds) (hl : ds.length ≤ N.length) : Ok K ⟨H, G, none, fun _ => none⟩ G H (start N vs) (start0 N ds) where
  g0 := Same.refl _
  fr := fun a h k => absurd h k
  gh := s
  bh := Same.refl _
  len := by
    have := r.length
    simp [L2.start, start0, this]
  im := fun i d h => im_start r i d h
  ow := ⟨fun _ => 0, fun i o h => (ow_start i o h).elim, fun i j o o' h => (ow_start i o h).elim⟩
  mine := fun p dx C fs e => nomatch e
  marks := fun i p o e => nomatch e
theorem ok_startM (N : List Str) {p dx C : Addr} {fvs : List (Str × V)} {fs : List (Str × D)} (s : Same G H) (hp : H p = some (.ins C dx fvs)) (np : G p = none) (rf : RepF K G fvs fs) (r : Reps K G vs ds) (hl : ds.length + 1 ≤ N.length) :
    Ok K ⟨hide p H, G, some (p, dx), fun _ => none⟩ G H (start N (.ref p :: vs)) (startM N C fs ds) := by
  have hr := r.length
  have e : start N (.ref p :: vs) = some (.ref p) :: (vs.map some ++ List.replicate (N.length - (vs.length + 1)) none) := rfl
  refine ⟨Same.refl _, fun a h k => absurd h k, s, hide_sub, ?_, fun i d h => ?_, ?_, fun p' dx' C' fs' e1 h => ?_, fun i p o e => nomatch e⟩
  · rw [e]
    simp [startM, hr]
  · cases i with
    | zero => cases h
    | succ i =>
      rw [e]
      exact im_start r i d h
  · refine ⟨fun _ => p, fun i o h => ?_, fun i j o o' h h' _ => ?_⟩
    · cases i with
      | zero =>
        have e2 : OD.ins C fs = o := by simpa [startM] using h
        subst e2
        exact ⟨by rw [e]; rfl, np, hide_same, _, hp, rfl, rf⟩
      | succ i => exact (ow_start i o h).elim
    · cases i with
      | zero =>
        cases j with
        | zero => rfl
        | succ j => exact (ow_start j o' h').elim
      | succ i => exact (ow_start i o h).elim
  · cases e1
    have e2 : C = C' ∧ fs = fs' := by simpa [startM] using h
    obtain ⟨rfl, rfl⟩ := e2
    exact ⟨by rw [e]; rfl, fvs, hp⟩
theorem gr_of {b : Bs} {σ : L2.St} {ρ : List Sl} {G' H' : Hp} (hb : b.B = H) (hg : b.G = G) (o : Ok K b G' H' σ ρ) : Gr G H G' H' := by
  subst hb hg
  exact ⟨o.bh, o.g0, o.fr, o.gh⟩
theorem grP_of {p : Addr} {b : Bs} {σ : L2.St} {ρ : List Sl} {G' H' : Hp} (np : G p = none) (hb : b.B = hide p H) (hg : b.G = G) (o : Ok K b G' H' σ ρ) (n' : G' p = none) : GrP p G H G' H' := by
  have h1 := o.bh
  have h2 := o.fr
  rw [hb] at h1 h2
  rw [hg] at h2
  refine ⟨fun z u hz hu => h1 z u (by rw [hide_ne hz]; exact hu), by rw [← hg]; exact o.g0, fun a ha k => ?_, o.gh⟩
  have := h2 a ha k
  by_cases q : a = p
  · rw [q] at k
    exact absurd n' k
  · rw [hide_ne q] at this
    exact this
end
section
variable {P : Program} {w : World} {K : Frag} {mg : Str → Option Value} {base : Heap} {x qual : Str} {st : Stmt} {f : Addr} {fd : FuncData} {N ps : List Str} {k : Nat}
/-- the context of a def's body -/
abbrev cx (P : Program) (w : World) (K : Frag) (mg : Str → Option Value) (base : Heap) (N : List Str) (qual : Str) (st : Stmt) (f : Addr) (cdv : Value) (A : Around) (outer : List Env) (s : Shared) (H : Hp) (E : XK) : Cx :=
  cxOf (L2.CX P w) P w K mg base N qual (defScope st) f cdv A outer s H E
abbrev wE (E : XK) : WX := fun cls d _ H => E cls d H
/-- a def that changes nothing -/
theorem fnF {R : List D → Res → Prop} (F : Fun K x qual st f fd) (S : FnScope N ps (defScope st)) (hlen : ∀ ds r, R ds r → ds.length = ps.length)
    (hbody : ∀ (cdv : Value) (A : Around) (outer : List Env) (s : Shared) (H : Hp) (E : XK), Room k (A.deeper (PyProof.Rows.envOfC qual (defScope st) s.heap.objs.size f cdv)) →
      ∃ t, PSs (cx P w K mg base N qual st f cdv A outer s H E) (defBody st) t ∧ ∀ ds r, R ds r → SV K (wE E) t (start0 N ds) (FinF r)) :
    FnOk P w K mg base (L2.CX P w) (k + 1) f fd ps (spF K R) := by
  have hpl : ps.length ≤ N.length := by
    have := congrArg List.length S.pre
    rw [List.length_take] at this
    omega
  refine F.okX S ?_ ?_
  · rintro vs H Q E ⟨G, ds, r, s, rr, hR, _⟩
    rw [rr.length]
    exact hlen ds r hR
  · rintro cdv A outer s H vs Q E hr ⟨G, ds, r, sm, rr, hR, hq⟩
    obtain ⟨t, ht, hv⟩ := hbody cdv A outer s H E hr
    have hl := hlen ds r hR
    refine ⟨t, ht, hv ds r hR _ G H _ _ (ok_start N sm rr (by omega)) fun o ho => ?_⟩
    cases o with
    | nx ρ =>
      subst ho
      intro σ G' H' o'
      exact hq .non G' H' (gr_of rfl rfl o') .non
    | rt d ρ =>
      subst ho
      intro v σ G' H' o' rv
      exact hq v G' H' (gr_of rfl rfl o') rv
    | ex C fx ρ =>
      subst ho
      intro od σ G' H' o' e
      exact hq od G' H' (gr_of rfl rfl o') e
    | bk ρ => exact ho.elim
    | ct ρ => exact ho.elim
/-- a def whose first argument is an object that it may change -/
theorem fnM {C : Addr} {R : List (Str × D) → List D → Res → List (Str × D) → Prop} (F : Fun K x qual st f fd) (S : FnScope N ps (defScope st)) (hlen : ∀ fs ds r fs', R fs ds r fs' → ds.length + 1 = ps.length)
    (hbody : ∀ (cdv : Value) (A : Around) (outer : List Env) (s : Shared) (H : Hp) (E : XK), Room k (A.deeper (PyProof.Rows.envOfC qual (defScope st) s.heap.objs.size f cdv)) →
      ∃ t, PSs (cx P w K mg base N qual st f cdv A outer s H E) (defBody st) t ∧ ∀ fs ds r fs', R fs ds r fs' → SV K (wE E) t (startM N C fs ds) (FinM r C fs')) :
    FnOk P w K mg base (L2.CX P w) (k + 1) f fd ps (spM K C R) := by
  have hpl : ps.length ≤ N.length := by
    have := congrArg List.length S.pre
    rw [List.length_take] at this
    omega
  refine F.okX S ?_ ?_
  · rintro vs H Q E ⟨p, dx, us, fvs, fs, fs', G, ds, r, rfl, _, _, _, _, rr, hR, _⟩
    rw [List.length_cons, rr.length]
    exact hlen fs ds r fs' hR
  · rintro cdv A outer s H vs Q E hr ⟨p, dx, us, fvs, fs, fs', G, ds, r, rfl, hp, np, sm, rf, rr, hR, hq⟩
    obtain ⟨t, ht, hv⟩ := hbody cdv A outer s H E hr
    have hl := hlen fs ds r fs' hR
    have fin : ∀ {σ : L2.St} {ρ : List Sl} {G' H' : Hp}, Ok K ⟨hide p H, G, some (p, dx), fun _ => none⟩ G' H' σ ρ → ρ[0]? = some (Sl.ow (.ins C fs')) → ∃ vs', GrP p G H G' H' ∧ H' p = some (.ins C dx vs') ∧ RepF K G' vs' fs' := by
      intro σ ρ G' H' o' h0
      obtain ⟨a, dx', vs', k1, k2, k3, k4, k5, _⟩ := o'.own_ins h0
      obtain ⟨m1, vs2, m2⟩ := o'.mine p dx C fs' rfl h0
      have ea : p = a := by rw [m1] at k1; simpa using k1
      subst ea
      rw [k4] at m2
      cases m2
      exact ⟨vs', grP_of np rfl rfl o' k2, k4, k5⟩
    refine ⟨t, ht, hv fs ds r fs' hR _ G H _ _ (ok_startM N sm hp np rf rr (by omega)) fun o ho => ?_⟩
    cases o with
    | nx ρ =>
      obtain ⟨rfl, h0⟩ := ho
      intro σ G' H' o'
      obtain ⟨vs', g1, g2, g3⟩ := fin o' h0
      exact hq .non G' H' vs' g1 g2 g3 .non
    | rt d ρ =>
      obtain ⟨rfl, h0⟩ := ho
      intro v σ G' H' o' rv
      obtain ⟨vs', g1, g2, g3⟩ := fin o' h0
      exact hq v G' H' vs' g1 g2 g3 rv
    | ex C' fx ρ =>
      obtain ⟨rfl, h0⟩ := ho
      intro od σ G' H' o' e
      obtain ⟨vs', g1, g2, g3⟩ := fin o' h0
      exact hq od G' H' vs' g1 g2 g3 e
    | bk ρ => exact ho.elim
    | ct ρ => exact ho.elim
end

/-! ### defs, methods, properties, classes as they are found by name -/
/-- the module's def of this name keeps sp, by at most level k -/
structure DefN (P : Program) (w : World) (K : Frag) (mg : Str → Option Value) (base : Heap) (k : Nat) (x : Str) (sp : Sp) : Prop where
  ex : ∃ (f : Addr) (fd : FuncData) (ps : List Str), FnOk P w K mg base (L2.CX P w) k f fd ps sp ∧ mg x = some (.ref f) ∧ PySem.W.keepIn K (.ref f) = true ∧ Binds K fd ps []
/-- the class's method of this name -/
structure MthN (P : Program) (w : World) (K : Frag) (mg : Str → Option Value) (base : Heap) (k : Nat) (C : Addr) (m : Str) (sp : Sp) : Prop where
  cl : Cls K C
  ex : ∃ (f : Addr) (fd : FuncData) (ps : List Str), FnOk P w K mg base (L2.CX P w) k f fd ps sp ∧ Meth K C m f ∧ Binds K fd ps []
structure PrpN (P : Program) (w : World) (K : Frag) (mg : Str → Option Value) (base : Heap) (k : Nat) (C : Addr) (m : Str) (sp : Sp) : Prop where
  cl : Cls K C
  ex : ∃ (p f : Addr) (fd : FuncData) (ps : List Str), FnOk P w K mg base (L2.CX P w) k f fd ps sp ∧ PropOf K C m p f ∧ Binds K fd ps []
structure ClsN (P : Program) (w : World) (K : Frag) (mg : Str → Option Value) (base : Heap) (k : Nat) (x : Str) (C : Addr) (sp : Sp) : Prop where
  ex : ∃ (f : Addr) (fd : FuncData) (ps : List Str), FnOk P w K mg base (L2.CX P w) k f fd ps sp ∧ Mk K C f ∧ mg x = some (.ref C) ∧ Binds K fd ps []
section
variable {X : Cx} {W : WX} {k j : Nat} {C : Addr} {x m : Str} {sp : Sp} {p pos apos : Pos} {e o : Expr} {es : List Expr} {ta : TE} {t : TA}
theorem u_call (D : DefN X.prog X.w X.K X.mg X.base k x sp) (tk : Takes X W) (hr : Room j X.A) (hk : k ≤ j) (hg : Gl X x) (ha : PA X (e :: es) t) (hdb : (x == ("__debug__" : Str)) = false := by decide)
    (he : starEach (e :: es) X.env = (false, eval e X.env) :: starEach es X.env := by rfl) (hpl : (backTo pos (starEach es X.env)).any (·.1) = false := by rfl) : PE X (.Call (.Name x p) (e :: es) [] pos) (tCallS sp (WE W) t) := by
  obtain ⟨f, fd, ps, F, hm, hk2, hb⟩ := D.ex
  exact pe_callS F (hr.mono hk) hg hm hk2 hb (fun σ => passAt tk σ) ha hdb he hpl
theorem u_meth {pl : Sem Bool} (D : MthN X.prog X.w X.K X.mg X.base k C m sp) (tk : Takes X W) (hr : Room j X.A) (hk : k ≤ j) (he : PE X o ta) (ha : PA X (e :: es) t)
    (hst : starEach (e :: es) X.env = (false, eval e X.env) :: starEach es X.env := by rfl) (hpl : (backTo pos (starEach es X.env)).any (·.1) = false := by rfl)
    (ht : eval (.Call (.Attribute o m apos) (e :: es) [] pos) X.env = (do
      let ov ← eval o X.env
      standAt apos.atName
      let (f, first) ← holding [ov] (getMethod ov m pl)
      callWith pos f first (backTo pos (starEach (e :: es) X.env)) (backToKw pos (keywordEach [] X.env))) := by rfl) : PE X (.Call (.Attribute o m apos) (e :: es) [] pos) (tMethW C m sp (WE W) ta t) := by
  obtain ⟨f, fd, ps, F, hm, hb⟩ := D.ex
  exact pe_methW he D.cl hm F (hr.mono hk) hb (fun σ => passAt tk σ) ha hst hpl ht
theorem u_meth0 {pl : Sem Bool} (D : MthN X.prog X.w X.K X.mg X.base k C m sp) (tk : Takes X W) (hr : Room j X.A) (hk : k ≤ j) (he : PE X o ta)
    (ht : eval (.Call (.Attribute o m apos) [] [] pos) X.env = (do
      let ov ← eval o X.env
      standAt apos.atName
      let (f, first) ← holding [ov] (getMethod ov m pl)
      callWith pos f first (backTo pos (starEach [] X.env)) (backToKw pos (keywordEach [] X.env))) := by rfl) : PE X (.Call (.Attribute o m apos) [] [] pos) (tMethW C m sp (WE W) ta tNil) := by
  obtain ⟨f, fd, ps, F, hm, hb⟩ := D.ex
  exact pe_methW0 he D.cl hm F (hr.mono hk) hb (fun σ => passAt tk σ) ht
theorem u_make (D : ClsN X.prog X.w X.K X.mg X.base k x C sp) (tk : Takes X W) (hr : Room j X.A) (hk : k + 1 ≤ j) (hg : Gl X x) (ha : PA X (e :: es) t) (hdb : (x == ("__debug__" : Str)) = false := by decide)
    (he : starEach (e :: es) X.env = (false, eval e X.env) :: starEach es X.env := by rfl) (hpl : (backTo pos (starEach es X.env)).any (·.1) = false := by rfl) : PE X (.Call (.Name x p) (e :: es) [] pos) (tMakeW C sp (WE W) t) := by
  obtain ⟨f, fd, ps, F, M, hm, hb⟩ := D.ex
  exact pe_makeW M F (hr.mono hk) hg hm hb (fun σ => passAt tk σ) ha hdb he hpl
theorem passN {X : Cx} : Passes (L2.CX X.prog X.w) X.nox E0 := fun _ _ _ _ _ _ _ h => by
  obtain ⟨_, _, _, _, _, _, _, _, _, _, _, _, z⟩ := h
  exact z.elim
theorem u_prop (D : PrpN X.prog X.w X.K X.mg X.base k C m sp) (hr : Room j X.A) (hk : k + 1 ≤ j) (he : PE X e ta) (hab : attributeBase e m X.env (eval e X.env) = eval e X.env := by rfl) : PE X (.Attribute e m pos) (tProp C sp [] E0 ta) := by
  obtain ⟨pp, f, fd, ps, F, hp, hb⟩ := D.ex
  exact pe_prop he D.cl hp F (hr.mono hk) hb .nil passN hab
end
end DL

set_option maxRecDepth 100000
set_option maxHeartbeats 4000000
/-! The data layer, part f: comprehensions; what is walked, a list or a tuple; three-place min. -/
namespace DL
open PySem L2

/-- a list or a tuple is walked -/
def iU (K : Frag) (te : TE) : TI := fun σ H R => iList K te σ H R ∨ iTup K te σ H R
theorem pi_U {X : Cx} {tg l : Expr} {tl : TE} (h : PE X l tl) : PI X tg l (iU X.K tl) := by
  constructor
  intro pins s σ H R I q
  rcases q with q | q
  · exact (pi_list h).run pins s σ H R I q
  · exact (pi_tup h).run pins s σ H R I q

theorem wipe_get {σ : L2.St} : ∀ {vs : List Nat} {j : Nat}, (wipe σ vs)[j]? = if j ∈ vs then (if j < σ.length then some none else none) else σ[j]?
  | [], j => by simp [wipe]
  | v :: vs, j => by
    unfold wipe
    rw [List.getElem?_set, wipe_length, wipe_get]
    by_cases q : v = j
    · subst q
      simp
    · rw [if_neg q]
      have e : (j ∈ v :: vs) = (j ∈ vs) := by
        simp only [List.mem_cons, eq_iff_iff]
        exact ⟨fun h => h.resolve_left (fun z => q z.symm), .inr⟩
      simp only [e]
theorem wipe_set {σ : L2.St} {vs : List Nat} {i : Nat} (x : Option V) (h : i ∈ vs) : wipe (σ.set i x) vs = wipe σ vs := by
  apply List.ext_getElem?
  intro j
  rw [wipe_get, wipe_get, List.length_set]
  by_cases q : j ∈ vs
  · simp [q]
  · simp only [q, if_false]
    rw [List.getElem?_set_ne (fun z => q (by rw [← z]; exact h))]
/-- the slots of the comprehension's own names are forgotten -/
def wipeD (ρ : List Sl) : List Nat → List Sl
  | [] => ρ
  | v :: vs => (wipeD ρ vs).set v Sl.un
section
variable {K : Frag} {ρ ρ' : List Sl} {t u : TS} {te : TE} {x y z : Vd} {d e : D} {W : WX} {C : Addr} {fs : List (Str × D)} {P P' : Oc → Prop}
theorem Ok.wipe {b : Bs} {G H : Hp} {σ : L2.St} (o : Ok K b G H σ ρ) : ∀ vs : List Nat, Ok K b G H (L2.wipe σ vs) (wipeD ρ vs)
  | [] => o
  | v :: vs => Ok.clear (Ok.wipe o vs) v none
/-- a comprehension's target takes a datum -/
def GW (K : Frag) (vs : List Nat) (g : TG) (d : D) (ρ ρ' : List Sl) : Prop := ∀ (b : Bs) (G H : Hp) (σ : L2.St) (v : V) (Q : L2.St → Hp → Prop), Ok K b G H σ ρ → Rep K G v d → (∀ σ', Ok K b G H σ' ρ' → wipe σ' vs = wipe σ vs → Q σ' H) → g v σ H Q
def GWs (K : Frag) (vs : List Nat) (g : TGs) (ds : List D) (ρ ρ' : List Sl) : Prop := ∀ (b : Bs) (G H : Hp) (σ : L2.St) (ws : List V) (Q : L2.St → Hp → Prop), Ok K b G H σ ρ → Reps K G ws ds → (∀ σ', Ok K b G H σ' ρ' → wipe σ' vs = wipe σ vs → Q σ' H) → g ws σ H Q
theorem gw_name {vs : List Nat} {i : Nat} (h : i ∈ vs) : GW K vs (gName i) d ρ (ρ.set i (Sl.im d)) := fun b G H σ v Q o r q => q _ (o.set i r) (wipe_set _ h)
theorem gws_nil {vs : List Nat} : GWs K vs gNil [] ρ ρ := fun b G H σ ws Q o r q => by cases r; exact ⟨rfl, q σ o rfl⟩
theorem gws_cons {vs : List Nat} {i : Nat} {g : TGs} {ds : List D} (hi : i ∈ vs) (h : GWs K vs g ds (ρ.set i (Sl.im d)) ρ') : GWs K vs (gCons (gName i) g) (d :: ds) ρ ρ' := fun b G H σ ws Q o r q => by
  cases r with
  | cons a r => exact ⟨_, _, rfl, h b G H _ _ Q (o.set i a) r fun σ' o' e => q σ' o' (e.trans (wipe_set _ hi))⟩
theorem gw_tup {vs : List Nat} {n : Nat} {g : TGs} {ds : List D} (hn : ds.length = n) (h : GWs K vs g ds ρ ρ') : GW K vs (gTup K n g) (.tup ds) ρ ρ' := fun b G H σ v Q o r q => by
  cases r with
  | @tup a ws _ h1 h2 => exact ⟨a, ws, rfl, sqt_mono o.gh h1, by rw [h2.length]; exact hn, h b G H σ ws Q o h2 q⟩
theorem wipe_idem {σ : L2.St} {vs : List Nat} : wipe (wipe σ vs) vs = wipe σ vs := by
  apply List.ext_getElem?
  intro j
  rw [wipe_get, wipe_get, wipe_length]
  by_cases q : j ∈ vs <;> simp [q]

variable {α : Type}
/-- one turn of a comprehension, on data -/
def LcT (K : Frag) (g : TG) (tt : TT) (te : TE) (vs : List Nat) (ρ : List Sl) (d : D) (c : Bool) (r : D) : Prop := ∃ ρ2, GW K vs g d (wipeD ρ vs) ρ2 ∧ TV K tt ρ2 c ∧ (c = true → ∃ y, EV K te ρ2 y ∧ Stb y r)
theorem lc_turn {g : TG} {tt : TT} {te : TE} {vs : List Nat} {b : Bs} {G0 H0 G H : Hp} {σ : L2.St} {D0 : Addr} {acc : List V} {ds : List D} {w : V} {c : Bool} {r : D} {N : Hp → Prop} (o : Ok K b G0 H0 σ ρ) (gr : Gr G0 H0 G H) (n0 : H0 D0 = none) (nG : G D0 = none) (hD : H D0 = some (.lst acc)) (ra : Reps K G acc ds)
    (hl : acc.length < sizeLine) (hw : Rep K G w d) (h : LcT K g tt te vs ρ d c r)
    (q : ∀ G' H' acc', Gr G0 H0 G' H' → G' D0 = none → H' D0 = some (.lst acc') → Reps K G' acc' (if c = true then ds ++ [r] else ds) → N H') :
    g w (wipe σ vs) H fun σ2 H2 => wipe σ2 vs = wipe σ vs ∧ tt σ2 H2 fun c H3 => if c = true then te σ2 H3 fun y H4 => ∃ acc, H4 D0 = some (.lst acc) ∧ acc.length < sizeLine ∧ N (upd H4 D0 (.lst (acc ++ [y]))) else N H3 := by
  obtain ⟨ρ2, hg, ht, he⟩ := h
  have ow := (o.gr gr).wipe vs
  refine hg b G H _ w _ ow hw fun σ' o' ew => ⟨ew.trans wipe_idem, ht b G H σ' _ o' fun G1 H1 g1 => ?_⟩
  have n1 : G1 D0 = none := by
    by_cases z : G1 D0 = none
    · exact z
    · have := g1.fr _ nG z
      rw [hD] at this; cases this
  cases c with
  | false =>
    rw [if_neg Bool.false_ne_true]
    exact q G1 H1 acc (gr.trans g1) n1 (g1.hh _ _ hD) (Reps.mono g1.gg _ ra)
  | true =>
    rw [if_pos rfl]
    obtain ⟨y, hy, sy⟩ := he rfl
    refine hy b G1 H1 σ' _ (o'.gr g1) fun v G2 H2 g2 r2 => ?_
    obtain ⟨G3, g3, s3, r3⟩ := r2.stb g2 sy
    have hD2 := g3.hh _ _ (g1.hh _ _ hD)
    have n3 : G3 D0 = none := by
      by_cases z : G3 D0 = none
      · exact z
      · have := g3.fr _ n1 z
        rw [g1.hh _ _ hD] at this; cases this
    have gt := (gr.trans g1).trans g3
    refine ⟨acc, hD2, hl, q G3 _ (acc ++ [v]) ⟨fun z u hz => ?_, gt.gg, gt.fr, fun z u hz => ?_⟩ n3 upd_same ((Reps.mono (g1.gg.trans g3.gg) _ ra).snoc r3)⟩
    · rw [upd_ne (ne_of_none hz n0)]
      exact gt.hh z u hz
    · rw [upd_ne (ne_of_none hz n3)]
      exact gt.gh z u hz
/-- what it has made of the first i items -/
def lcSo (cf : α → Bool) (f : α → D) (xs : List α) : List D := (xs.filter cf).map f
theorem lcSo_snoc (cf : α → Bool) (f : α → D) (xs : List α) (a : α) : (if cf a = true then lcSo cf f xs ++ [f a] else lcSo cf f xs) = lcSo cf f (xs ++ [a]) := by
  unfold lcSo
  rw [List.filter_append, List.map_append]
  by_cases h : cf a = true
  · simp [h]
  · simp [h]
theorem take_snoc {xs : List α} {i : Nat} {a : α} (h : xs[i]? = some a) : xs.take (i + 1) = xs.take i ++ [a] := by
  rw [List.take_add_one, h]
  rfl
theorem lcSo_le (cf : α → Bool) (f : α → D) (xs : List α) : (lcSo cf f xs).length ≤ xs.length := by
  unfold lcSo
  rw [List.length_map]
  exact List.length_filter_le _ _
/-- [e for g in xs if c]: xs a list -/
theorem ev_lcL {g : TG} {tt : TT} {te0 te : TE} {vs : List Nat} (xs : List α) (en : α → D) (cf : α → Bool) (f : α → D) (hx : EV K te0 ρ x) (l : Lsd x (xs.map en)) (hl : xs.length ≤ sizeLine)
    (h : ∀ a ∈ xs, LcT K g tt te vs ρ (en a) (cf a) (f a)) : EV K (tLc (iU K te0) g tt te vs) ρ (.fr ((xs.filter cf).map f)) := fun b G0 H0 σ Q o q => .inl (hx b G0 H0 σ _ o fun v G1 H1 g1 r1 => by
  obtain ⟨a, ws, rfl, h1, h2⟩ := r1.lsd g1.gh l
  have hlen : ws.length = xs.length := by rw [h2.length, List.length_map]
  refine ⟨a, rfl, ⟨ws, h1⟩, fun D0 n0 => lc_list (K := K) (a := a) (xs := ws) (fun i H => ∃ G acc, Gr G1 H1 G H ∧ G D0 = none ∧ H D0 = some (.lst acc) ∧ Reps K G acc (lcSo cf f (xs.take i))) ?_ (fun i H _ ⟨G, acc, gr, _⟩ => sql_mono gr.hh h1) ?_ ?_⟩
  · obtain ⟨g2, n2⟩ := Gr.newO g1.gh (.lst []) n0
    exact ⟨G1, [], g2, n2, upd_same, .nil⟩
  · rintro i w H hi ⟨G, acc, gr, nG, hD, ra⟩
    obtain ⟨d, hd, rd⟩ := h2.getV hi
    rw [List.getElem?_map] at hd
    cases e : xs[i]? with
    | none => rw [e] at hd; cases hd
    | some y =>
      rw [e] at hd
      have ed : en y = d := by simpa using hd
      subst ed
      have hi' : i < xs.length := (List.getElem?_eq_some_iff.mp e).1
      refine lc_turn (o.gr g1) gr n0 nG hD ra ?_ (Rep.mono gr.gg _ rd) (h y (List.mem_of_getElem? e)) fun G' H' acc' gr' n' hD' ra' => ⟨G', acc', gr', n', hD', ?_⟩
      · have h3 := ra.length
        have h4 := lcSo_le cf f (xs.take i)
        rw [List.length_take] at h4
        omega
      · rw [take_snoc e, ← lcSo_snoc]
        exact ra'
  · rintro H ⟨G, acc, gr, nG, hD, ra⟩
    rw [hlen, List.take_length] at ra
    exact q _ G H (g1.trans gr) ⟨D0, acc, rfl, g1.hh.free n0, nG, hD, ra⟩)
/-- the same over a tuple -/
theorem ev_lcT {g : TG} {tt : TT} {te0 te : TE} {vs : List Nat} (xs : List α) (en : α → D) (cf : α → Bool) (f : α → D) (hx : EV K te0 ρ (.st (.tup (xs.map en)))) (hl : xs.length ≤ sizeLine)
    (h : ∀ a ∈ xs, LcT K g tt te vs ρ (en a) (cf a) (f a)) : EV K (tLc (iU K te0) g tt te vs) ρ (.fr ((xs.filter cf).map f)) := fun b G0 H0 σ Q o q => .inr (hx b G0 H0 σ _ o fun v G1 H1 g1 r1 => by
  have r1' : Rep K G1 v (.tup (xs.map en)) := r1
  cases r1' with
  | @tup a ws _ h1' h2 =>
  have h1 := sqt_mono g1.gh h1'
  have hlen : ws.length = xs.length := by rw [h2.length, List.length_map]
  refine ⟨a, rfl, ⟨ws, h1⟩, fun D0 n0 => lc_tup (K := K) (a := a) (xs := ws) (fun i H => ∃ G acc, Gr G1 H1 G H ∧ G D0 = none ∧ H D0 = some (.lst acc) ∧ Reps K G acc (lcSo cf f (xs.take i))) ?_ (fun i H _ ⟨G, acc, gr, _⟩ => sqt_mono gr.hh h1) ?_ ?_⟩
  · obtain ⟨g2, n2⟩ := Gr.newO g1.gh (.lst []) n0
    exact ⟨G1, [], g2, n2, upd_same, .nil⟩
  · rintro i w H hi ⟨G, acc, gr, nG, hD, ra⟩
    obtain ⟨d, hd, rd⟩ := h2.getV hi
    rw [List.getElem?_map] at hd
    cases e : xs[i]? with
    | none => rw [e] at hd; cases hd
    | some y =>
      rw [e] at hd
      have ed : en y = d := by simpa using hd
      subst ed
      have hi' : i < xs.length := (List.getElem?_eq_some_iff.mp e).1
      refine lc_turn (o.gr g1) gr n0 nG hD ra ?_ (Rep.mono gr.gg _ rd) (h y (List.mem_of_getElem? e)) fun G' H' acc' gr' n' hD' ra' => ⟨G', acc', gr', n', hD', ?_⟩
      · have h3 := ra.length
        have h4 := lcSo_le cf f (xs.take i)
        rw [List.length_take] at h4
        omega
      · rw [take_snoc e, ← lcSo_snoc]
        exact ra'
  · rintro H ⟨G, acc, gr, nG, hD, ra⟩
    rw [hlen, List.take_length] at ra
    exact q _ G H (g1.trans gr) ⟨D0, acc, rfl, g1.hh.free n0, nG, hD, ra⟩)
/-- over range(n) -/
theorem ev_lcR1 {g : TG} {tt : TT} {te0 te : TE} {vs : List Nat} (n : Int) (cf : Nat → Bool) (f : Nat → D) (hx : EV K te0 ρ (.st (.int n))) (hn : n ≤ 1000000) (hn0 : -(2 ^ 62) ≤ n)
    (h : ∀ i : Nat, (i : Int) < n → LcT K g tt te vs ρ (.int i) (cf i) (f i)) : EV K (tLc (iRng1 (tCons te0 tNil)) g tt te vs) ρ (.fr (((List.range n.toNat).filter cf).map f)) := fun b G0 H0 σ Q o q => hx b G0 H0 σ _ o fun v G1 H1 g1 r1 => by
  obtain rfl := rep_int r1
  refine ⟨n, rfl, hn0, Int.lt_of_le_of_lt hn (by decide), fun D0 n0 => lc_range (lo := 0) (n := n.toNat) (fun i H => i ≤ n.toNat ∧ ∃ G acc, Gr G1 H1 G H ∧ G D0 = none ∧ H D0 = some (.lst acc) ∧ Reps K G acc (lcSo cf f (List.range i))) ?_ ?_ ?_⟩
  · obtain ⟨g2, n2⟩ := Gr.newO g1.gh (.lst []) n0
    exact ⟨Nat.zero_le _, G1, [], g2, n2, upd_same, .nil⟩
  · rintro i H hi ⟨_, G, acc, gr, nG, hD, ra⟩
    rw [Int.zero_add]
    refine lc_turn (o.gr g1) gr n0 nG hD ra ?_ (.int i) (h i (by omega)) fun G' H' acc' gr' n' hD' ra' => ⟨hi, G', acc', gr', n', hD', ?_⟩
    · have h3 := ra.length
      have h4 := lcSo_le cf f (List.range i)
      rw [List.length_range] at h4
      rw [sizeLine_eq]
      omega
    · rw [List.range_succ, ← lcSo_snoc]
      exact ra'
  · rintro H ⟨_, G, acc, gr, nG, hD, ra⟩
    exact q _ G H (g1.trans gr) ⟨D0, acc, rfl, g1.hh.free n0, nG, hD, ra⟩
/-- a, b, .. = a list (new or stable) -/
theorem sv_unl {n : Nat} {g : TGs} {ds : List D} (h : EV K te ρ x) (s : Stb x (.lst ds)) (hn : ds.length = n) (hg : GV K g ds ρ ρ') (k : P (.nx ρ')) : SV K W (tAsg te (gUnl K n g)) ρ P := fun b G H σ D o q => h b G H σ _ o fun v G' H' g1 r1 => by
  obtain ⟨G2, g2, s2, r2⟩ := r1.stb g1 s
  cases r2 with
  | @lst a vs _ h1 h2 => exact ⟨a, vs, rfl, sql_mono g2.gh h1, by rw [h2.length]; exact hn, hg b G2 H' σ vs _ (o.gr g2) h2 fun σ' o2 => q _ k σ' G2 H' o2⟩
theorem sv_forUL {g : TG} {tb : TS} {ds : List D} (I : Nat → List Sl → Prop) (hw : EV K te ρ x) (s : Stb x (.lst ds)) (h0 : I 0 ρ)
    (hs : ∀ i d ρ1, ds[i]? = some d → I i ρ1 → ∃ ρ2, G1 K g d ρ1 ρ2 ∧ SV K W tb ρ2 (Lp I i (fun ρ => P (.nx ρ)) P))
    (hd : ∀ ρ1, I ds.length ρ1 → P (.nx ρ1)) : SV K W (tFor (iU K te) g tb) ρ P := fun b G H σ D o q => .inl (sv_forL I hw s h0 hs hd b G H σ D o q)
theorem sv_forUT {g : TG} {tb : TS} {ds : List D} (I : Nat → List Sl → Prop) (hw : EV K te ρ x) (s : Stb x (.tup ds)) (h0 : I 0 ρ)
    (hs : ∀ i d ρ1, ds[i]? = some d → I i ρ1 → ∃ ρ2, G1 K g d ρ1 ρ2 ∧ SV K W tb ρ2 (Lp I i (fun ρ => P (.nx ρ)) P))
    (hd : ∀ ρ1, I ds.length ρ1 → P (.nx ρ1)) : SV K W (tFor (iU K te) g tb) ρ P := fun b G H σ D o q => .inr (sv_forT I hw s h0 hs hd b G H σ D o q)
/-- the least of two, of three -/
def mn2 (i j : Int) : Int := if j < i then j else i
def min3 (i j k : Int) : Int := mn2 (mn2 i j) k
theorem nuMin2_int (i j : Int) : nuMin2 (.int i) (.int j) = some (.int (mn2 i j)) := by
  unfold nuMin2 mn2
  have e : nuLt (.int j) (.int i) = some (decide (j < i)) := rfl
  rw [e, Option.map_some]
  by_cases h : j < i
  · simp [h]
  · simp [h]
theorem min3_int {i j k : Int} : CbD K (rNuC3 nuMin3) [.st (.int i), .st (.int j), .st (.int k)] (.st (.int (min3 i j k))) := fun H0 G H vs Q _ s a q => by
  obtain ⟨v, w, u, rfl, r1, r2, r3⟩ := vrs3 a
  obtain rfl := rep_int r1
  obtain rfl := rep_int r2
  obtain rfl := rep_int r3
  refine ⟨_, _, _, .int (min3 i j k), rfl, ?_, q _ G H (Gr.refl s) (.int _)⟩
  unfold nuMin3 min3
  rw [nuMin2_int, Option.bind_some, nuMin2_int]
end
end DL

set_option maxRecDepth 100000
set_option maxHeartbeats 4000000
/-! The data layer, part g: an own exception's __init__ of the form super().__init__('..'); self.f = v. -/
namespace DL
open PySem L2
open PySem.W PySem.Calls PyProof.Rows

section
variable {prog : Program} {w : World} {A : Around} {E : Value → Shared → Prop} {h : Heap} {g : Array GenState} {d : Drawn} {t : Nat} {os : OsState}
variable {nm q : Str} {C N : Addr} {bs bm bmB : List Value} {hdct : Bool} {sn : List Str} {sub : List Value} {ab : Bool} {col : Option Bool} {dd : Option Addr} {k0 k1 k2 k3 k5 : Option Value}
/-- the bound ValueError.__init__ called -/
theorem call_mw {u e t0 : Addr} {rest : List Value} {Q : Value → Shared → Prop}
    (hC : h.get? C = some (excClassObj nm q C N bs bm hdct sn sub ab col dd k0 k1 k2 k3 k5 "ValueError.__new__")) (he : h.get? e = some (HandSPX.excO C t0)) (hu : h.get? u = some (kxs_mw "ValueError.__init__" e)) (hrest : rest.length ≤ sizeLine)
    (hq : ∀ h' t1, (∀ b o, b ≠ e → h.get? b = some o → h'.get? b = some o) → h'.get? e = some (HandSPX.excO C t1) → Q .none ⟨h', g, d, t, os⟩) :
    wpAny (model prog w) A (call (.ref u) rest) Q E ⟨h, g, d, t, os⟩ := by
  refine wpAny_call (codeAny_of_tree ?_)
  show wpAny _ A.in1 (callAny (.ref u) ⟨rest, []⟩) _ _ _
  simp only [callAny]
  refine wpAny_bind (wpAny_load hu ?_)
  simp only [kxs_mw, show (Value.type "method-wrapper" == Value.type "method" || Value.type "method-wrapper" == Value.type "builtin_function_or_method" || Value.type "method-wrapper" == Value.type "method-wrapper") = true by decide, if_true]
  refine W.KFB.if_so (by decide) ?_
  refine wpAny_bind (ESX.check_bound F.excBase_ValueError hC he rfl ?_)
  refine wpAny_bind (wpAny_pure (wpAny_pure ?_))
  refine ⟨Code.quiet_builtin _ (by decide +kernel), codeAny_builtin F.excBase_ValueError.initEntry ?_⟩
  rw [Around.under_plainId F.excBase_ValueError.init.plain _]
  wp_walk
  refine hq _ h.objs.size (fun b o hb ho => ?_) ?_
  · rw [Heap.get?_update_other _ _ (Ne.symm hb)]
    exact Heap.get?_push_of_some _ ho
  · rw [Heap.get?_update_self _ (Heap.get?_push_of_some _ he) rfl]
    rfl
end

/-- what such an __init__ promises, at the level of the tracked heap -/
def spX (C : Addr) (fld : Str) : Sp := fun vs H Q _ => ∃ (a : Addr) (y : V), vs = [.ref a, y] ∧ H a = some (exo a C none) ∧ ∀ dx, H dx = none → dx ≠ a → Q .non (upd (upd H dx (exd dx [(fld, y)])) a (exo a C (some dx)))
/-- the body: super().__init__('..'); self.f = v -/
abbrev supBody (txt fld vn : Str) (j : Nat) (p0 p1 p2 p3 p4 p5 p6 p7 p8 p9 : Pos) : List Stmt :=
  [.Expr (.Call (.Attribute (.Call (.Name "super" p0) [] [] p1) "__init__" p2) [.Constant (.str txt) j p3] [] p4) p5, .Assign [.Attribute (.Name "self" p6) fld p7] (.Name vn p8) p9]
section
variable {P : Program} {w : World} {K : PySem.W.Frag} {mg : Str → Option Value} {base : Heap} {k : Nat} {C f cc cda : Addr} {name qual fld vn txt : Str} {params : Arguments} {scope : Scope} {dV kV doc pm ct oc ccl cl : Value} {an od cdd cld : Option Addr} {osl ccs csl : Array (Option Value)}
  {j : Nat} {p0 p1 p2 p3 p4 p5 p6 p7 p8 p9 : Pos} {ar : Arg} {vs : Array Value} {file : Str} {tf : Tok}
theorem xi_ok (lk : K.lookup f = some ⟨oc, od, .func (ksFn name qual params (supBody txt fld vn j p0 p1 p2 p3 p4 p5 p6 p7 p8 p9) scope dV kV doc pm an (.ref cda) ct cc), osl⟩) (hcd : codeIn K (.ref cda) qual = true)
    (hk : scope.kind = .function) (hco : scope.isCoroutine = false) (hgen : scope.isGenerator = false) (hcl : ∀ x ∈ scope.names, x.2 ≠ .cell) (hself : scope.names.lookup ("self" : Str) = some .local) (hv : scope.names.lookup vn = some .local)
    (hfree : ∀ x ∈ scope.names, x.2 = .free → x.1 = "__class__") (hks : scope.names.lookup ("super" : Str) = some .globalImplicit) (hkc : scope.names.lookup ("__class__" : Str) = some .free) (hne : vn ≠ "self") (hdb : (vn == ("__debug__" : Str)) = false) (hdc : (vn == ("__classdict__" : Str)) = false)
    (hp : (params.posonlyargs ++ params.args).head? = some ar) (har : ar.arg = "self") (hcode : K.lookup cda = some ⟨ccl, cdd, .fields vs, ccs⟩) (hvs : vs[2]? = some (.str file tf)) (hfile : ((P.main.file : Str) == file) = true)
    (hcell : K.lookup cc = some ⟨cl, cld, .cell (some (.ref C)), csl⟩) (hsup : mg "super" = none) (htop : (P.main.scope.names.lookup ("super" : Str)).isSome = false) (hboot : bootBuiltins "super" = some (.type "super"))
    (T : OexC K C) (no : findIn K (.ref C) fld = some none) (opq : nsIn K cStatics "thirdparty.any" = some none) (sup : ks_superIn K C C "__init__" = some (some (.builtin "ValueError.__init__"))) (sub : subIn K (.ref C) (.type "ValueError") = some true) (mro : mroIn K C (.ref C) = some true)
    (hev : ∀ L : Addr, ∃ pl : Sem Bool, eval (.Call (.Attribute (.Call (.Name "super" p0) [] [] p1) "__init__" p2) [.Constant (.str txt) j p3] [] p4) (ksEnv qual scope L f (.ref cda) cc) = (do
      let ov ← attributeBase (.Call (.Name "super" p0) [] [] p1) "__init__" (ksEnv qual scope L f (.ref cda) cc) (eval (.Call (.Name "super" p0) [] [] p1) (ksEnv qual scope L f (.ref cda) cc))
      standAt p2.atName
      let (g, first) ← holding [ov] (getMethod ov "__init__" pl)
      callWith p4 g first (backTo p4 (starEach [.Constant (.str txt) j p3] (ksEnv qual scope L f (.ref cda) cc))) []))
    (hsw : ∀ L : Addr, swapsWith (.Call (.Attribute (.Call (.Name "super" p0) [] [] p1) "__init__" p2) [.Constant (.str txt) j p3] [] p4) none p5.line (ksEnv qual scope L f (.ref cda) cc) = pure false) :
    FnOk P w K mg base (L2.CX P w) (k + 1) f (ksFn name qual params (supBody txt fld vn j p0 p1 p2 p3 p4 p5 p6 p7 p8 p9) scope dV kV doc pm an (.ref cda) ct cc) ["self", vn] (spX C fld) := by
  refine ⟨fun vs H Q E ⟨a, y, e, _⟩ => by rw [e]; rfl, ?_⟩
  rintro A outer s H args us vs' Q E hr e0 hb r ⟨a, y, rfl, ha, hq⟩
  have KX : K.In s.heap := e0.mod.kin.keeps fun b o e => (e0.bs b o e).1
  have lim : s.heap.NoLimit := e0.mod.nolimit.keeps fun b o e => (e0.bs b o e).1
  cases r with
  | @cons _ u0 _ us1 r0 r =>
  cases r with
  | @cons _ u1 _ us2 r1 r =>
  cases r
  obtain rfl : u0 = .ref a := r0
  have hkind : ∀ x ∈ (["self", vn] : List Str).zip [Value.ref a, u1], scope.names.lookup x.1 = some .local := fun x hx => by
    simp only [List.zip_cons_cons, List.zip_nil_right, List.mem_cons, List.not_mem_nil, or_false] at hx
    rcases hx with rfl | rfl
    · exact hself
    · exact hv
  refine ks_codeAny_call_defAt hr.depth (KX _ _ lk) rfl lim (codeRec_of KX hcd) rfl hb hcl hkind (fun h₁ hns hk₁ => ?_) hco hgen hk
  -- the context
  let env : Env := ksEnv qual scope s.heap.objs.size f (.ref cda) cc
  let X : Cx := { prog := P, w := w, K := K, mg := mg, base := base, A := A.deeper env, N := ["self", vn], s_0 := s, H_0 := H, env := env, outer := outer, stack := env :: outer, ex := [], calm := true, fn := fun _ => false, pn := [], xe := fun e s' => wpAny (model P w) (A.deeper env) (leaving env e) (fun _ s'' => L2.CX P w outer H s E e s'') (fun e' s'' => L2.CX P w outer H s E e' s'') s' }
  have cl1 : ∀ {x : Str} {c : Addr}, X.env.cells.lookup x = some c → x = "__class__" ∧ c = cc := by
    intro x c e
    have e' : List.lookup x [(("__class__" : Str), cc)] = some c := e
    rw [List.lookup_cons] at e'
    by_cases q : (x == ("__class__" : Str)) = true
    · rw [q] at e'
      exact ⟨beq_iff_eq.mp q, (Option.some.inj e').symm⟩
    · have q' : (x == ("__class__" : Str)) = false := by simpa using q
      rw [q'] at e'
      cases e'
  have bcc : base.get? cc = some ⟨cl, cld, .cell (some (.ref C)), csl⟩ := e0.mod.kin _ _ hcell
  have ok : X.Ok := {
    mod := e0.mod
    kind := hk
    glob := rfl
    blt := rfl
    above := Nat.le_refl _
    inj := fun x y c e1 e2 => (cl1 e1).1.trans (cl1 e2).1.symm
    has := fun x hx => by
      have hx' : scope.names.lookup x = some .cell ∨ scope.names.lookup x = some .free := hx
      rcases hx' with hx' | hx'
      · exact absurd rfl (hcl _ (PySem.mem_of_lookup hx'))
      · have := hfree _ (PySem.mem_of_lookup hx') rfl
        have this' : x = "__class__" := this
        subst this'
        exact ⟨cc, rfl⟩
    cab := fun x c e => nomatch e
    hd := fun _ => hr.hd
    frames := Around.frames_deeper e0.frames
    stk := .inr ⟨rfl, rfl⟩
    exf := fun b z => absurd (show b ∈ ([] : List Addr) from z) (by simp)
    bs := e0.bs
    bsz := e0.bsz
    noex := fun b _ _ z => absurd (show b ∈ ([] : List Addr) from z) (by simp)
    exfs := fun b z => absurd (show b ∈ ([] : List Addr) from z) (by simp)
    funs := e0.funs
    frf := e0.frf }
  have I : Inv X [] [some (.ref a), some y] H { s with heap := h₁, toks := s.toks + 2 } := {
    ok := ok
    os := rfl
    bare := e0.bare
    base := Un.kept hk₁
    loc := ⟨_, hns, fun i x v h1 h2 h3 => by
      match i, h1, h2 with
      | 0, h1, h2 =>
        have ex : ("self" : Str) = x := Option.some.inj h1
        have ev : V.ref a = v := by simpa using h2
        subst ex ev
        refine ⟨.ref a, rfl, .inl ⟨hself, ?_⟩⟩
        have n1 : (("self" : Str) == vn) = false := by simpa using Ne.symm hne
        simp [List.lookup, n1]
      | 1, h1, h2 =>
        have ex : vn = x := Option.some.inj h1
        have ev : y = v := by simpa using h2
        subst ex ev
        exact ⟨u1, r1, .inl ⟨hv, by simp [List.lookup]⟩⟩
      | i + 2, h1, h2 => simp at h2⟩
    cell := fun x c e => by
      obtain ⟨_, rfl⟩ := cl1 e
      exact ⟨_, _, hk₁ _ _ (KX _ _ hcell), rfl⟩
    free := e0.hok.fresh (Nat.le_refl _)
    freeC := fun x c e => by rw [(cl1 e).2]; exact (e0.bs _ _ bcc).2
    pin := fun p hp => absurd (show p ∈ ([] : List (Addr × Obj)) from hp) (by simp)
    hok := e0.hok.kept hk₁
    len := rfl }
  obtain ⟨nmC, qC, NC, bsC, bmC, snC, subC, abC, colC, ddC, c0, c1, c2, c3, c5, hC, hbm⟩ := T.cls
  have hcls : clsIn K C = some { name := nmC, bases := bsC, mro := .ref C :: bmC, ns := NC, qualname := qC, hasDict := true, slotNames := snC, subclasses := subC, abstract := abC, collection := colC, hasDel := false } := by unfold clsIn; rw [hC] <;> rfl
  -- the first statement
  obtain ⟨pl, hpl⟩ := hev s.heap.objs.size
  refine ks_wpAt_execs_cons (ks_wpAt_Expr_any (ks_wpAt_MethodCall (pl := pl) ?_ hpl) I.quiet (hsw _))
  have X1 : K.In h₁ := KX.keeps hk₁
  have N1 : h₁.Ns s.heap.objs.size (fun x => ((["self", vn] : List Str).zip [Value.ref a, u1]).reverse.lookup x) := hns
  obtain ⟨t1, ho⟩ := exo_at I.hok ha
  refine ks_wpAt_super_base (env := env) hks hkc (by decide) rfl (X1 _ _ lk) rfl hp rfl (X1 _ _ hcode) rfl hvs hfile htop ?_
  obtain ⟨mb, b1, b2⟩ := e0.mod.blt
  have bk : ∀ b o, base.get? b = some o → h₁.get? b = some o := fun b o e => hk₁ _ _ (e0.bs b o e).1
  refine ks_loadName_global hk hks (loadGlobal_builtin (env := env) (e0.mod.glob.keeps bk) hsup (b1.keeps bk) ((b2 _ (by decide)).trans hboot) ⟨rfl, ?_⟩)
  refine wpAny_loadName_free hk hkc rfl ⟨_, X1 _ _ hcell, rfl⟩ ?_
  have lself : ((["self", vn] : List Str).zip [Value.ref a, u1]).reverse.lookup ar.arg = some (.ref a) := by
    have n1 : (("self" : Str) == vn) = false := by simpa using Ne.symm hne
    rw [har]
    simp [List.lookup, n1]
  refine wpAny_loadName_local hk (by rw [har]; exact hself) N1 lself ?_
  have hC1 := X1 _ _ hC
  refine ks_wpAny_isType_cls hC1 rfl ⟨rfl, ?_⟩
  have ho' : h₁.get? a = some (HandSPX.excO C t1) := ho
  refine ks_wpAny_call_super hC1 rfl ho' rfl (fun c e => by cases e) (looks_mroIn X1 mro) (fun h2 e2 k2 => ?_)
  have X2 : K.In h2 := X1.keeps k2
  have o2 : h2.get? a = some (HandSPX.excO C t1) := k2 _ _ ho'
  have l2 : Looks (model P w) h2 (mroOf (.ref C)) (.ref C :: bmC) := (looks_clsIn X2 hcls).andThen .now
  have sup' : alongIn K "__init__" (((Value.ref C :: bmC).dropWhile (· != .ref C)).drop 1) = some (some (.builtin "ValueError.__init__")) := by
    unfold ks_superIn at sup
    rw [hcls] at sup
    exact sup
  have hxC : a ≠ C := fun z => by
    rw [z] at o2
    have := X2 _ _ hC
    rw [o2] at this
    cases this
  have hIs : Looks (model P w) h2 (isInstance (.ref a) (.type "ValueError")) true := InstAt.type (od := none) ⟨o2, rfl, rfl, trivial⟩ |>.andThen (looks_subIn X2 sub)
  refine kxs_getMethod kxs_ValueError e2 (looks_opaque X2 opq) l2 rfl X2 sup' hIs hxC (by decide) ?_
  have k3 : ∀ b o, h2.get? b = some o → (h2.push (kxs_mw "ValueError.__init__" a)).get? b = some o := fun b o e => Heap.get?_push_of_some _ e
  have u3 : (h2.push (kxs_mw "ValueError.__init__" a)).get? h2.objs.size = some (kxs_mw "ValueError.__init__" a) := Heap.get?_push_at rfl rfl
  refine kxs_callWith (i := "ValueError.__init__") (x := a) (by rfl) (evalArgs_plain (spliced_cons (Constant_str (k := j) (pos := p3) ?_)))
  refine spliced_nil ⟨u3, ?_⟩
  refine call_mw (k3 _ _ (k2 _ _ hC1)) (k3 _ _ o2) u3 (by show 1 ≤ sizeLine; rw [sizeLine_eq]; omega) fun h4 t4 k4 o4 => ?_
  -- the second statement
  have I4 : Inv X [] [some (.ref a), some y] H { s with heap := h4, toks := s.toks + 2 + 1 + 1 } := by
    have J := I.kept (h' := h2.push (kxs_mw "ValueError.__init__" a)) (t' := s.toks + 2 + 1 + 1) fun b o e => k3 _ _ (k2 _ _ e)
    have J2 := J.write (t' := s.toks + 2 + 1 + 1) (x := a) (e := a) (o := exo a C none) (by rw [ha]; exact True.intro) (.inl rfl) k4 ⟨_, o4⟩ (exo_ok o4)
    have eu : upd H a (exo a C none) = H := by
      funext b
      by_cases hb : b = a
      · rw [hb, upd_same, ha]
      · rw [upd_ne hb]
    rw [eu] at J2
    exact J2
  have hs : PSs X [.Assign [.Attribute (.Name "self" p6) fld p7] (.Name vn p8) p9] (tOst K fld (tVar 0) (tVar 1)) := pss_one (ps_ost (pe_var (i := 0) rfl (.inl hself)) (pe_var (i := 1) rfl (.inl hv) hdb hdc))
  have hrun := hs.run [] _ _ _ { nx := fun _ H' => Q .non H', rt := Q } I4 ⟨y, rfl, .ref a, rfl, a, C, rfl, T, no, .inl ⟨ha, hq⟩⟩
  refine wpAt_of_wpAny (wpAny_mono hrun (fun fl s' hs' => ?_) fun e s' hs' => hs')
  have fin : ∀ {σ' : L2.St} {H' : Hp} {v : V} {u : Value}, Inv X [] σ' H' s' → RelV v u → Q v H' → CE outer P w H s Q u s' := fun {σ' H' v u} J rv q => ⟨v, H', J.os, J.bare, J.base, J.hok, rv, q⟩
  cases fl with
  | ret u =>
    obtain ⟨v, σ', H', J, rv, q⟩ := hs'
    exact fin J rv q
  | next =>
    obtain ⟨σ', H', J, q⟩ := hs'
    exact fin (v := V.non) (u := Value.none) J rfl q
  | brk =>
    obtain ⟨_, _, _, q⟩ := hs'
    exact False.elim q
  | cont =>
    obtain ⟨_, _, _, q⟩ := hs'
    exact False.elim q
end
end DL

set_option maxRecDepth 100000
set_option maxHeartbeats 4000000
/-! The data layer, part h: own exceptions raised and caught. -/
namespace DL
open PySem L2
open PyProof.Rows

/-! ### raise -/
/-- an own exception class without its own __init__ -/
structure Ex0 (K : Frag) (mg : Str → Option Value) (x : Str) (C : Addr) : Prop where
  q : ∃ bmB, ExcBaseFacts "ValueError" "ValueError.__new__" "ValueError.__init__" bmB ∧ PySem.W.excIn K C bmB "ValueError.__new__" = true
  gC : mg x = some (.ref C)
  kC : PySem.W.keepIn K (.ref C) = true
  exC : PySem.W.subIn K (.ref C) (.type "BaseException") = some true
  tyC : PySem.W.typeIn K (.ref C) = some (.type "type")
/-- an own exception class whose __init__ takes one value and keeps it as fld -/
structure Ex1 (P : Program) (w : World) (K : Frag) (mg : Str → Option Value) (base : Heap) (k : Nat) (x : Str) (C : Addr) (fld : Str) : Prop where
  T : OexC K C
  gC : mg x = some (.ref C)
  ex : ∃ (f : Addr) (fd : FuncData) (ps : List Str), FnOk P w K mg base (L2.CX P w) k f fd ps (spX C fld) ∧ PySem.W.findIn K (.ref C) "__init__" = some (some (.ref f)) ∧ PySem.W.typeIn K (.ref f) = some (.type "function") ∧ Binds K fd ps []
  X : XfC K C
  no : PySem.W.findIn K (.ref C) fld = some none
def tRaise0 (W : WX) (C : Addr) : TS := fun _ σ H => W (.ref C) none σ H
def tRaise1 (W : WX) (C : Addr) (fld : Str) (ta : TA) : TS := fun _ σ H => tMkO C (spX C fld) [] ta σ H fun cls d H' => W cls d σ H'
section
variable {X : Cx} {W : WX} {k j : Nat} {C : Addr} {x m fld : Str} {p p2 pos pos' : Pos} {e : Expr} {es : List Expr} {ta : TA} {n : Nat}
theorem u_raise0 (B : Ex0 X.K X.mg x C) (hc : X.calm = true) (tk : Takes X W) (hg : Gl X x) (hdb : (x == ("__debug__" : Str)) = false := by decide) : PS X (.Raise (some (.Call (.Name x p) [.Constant (.str m) n p2] [] pos)) none pos') (tRaise0 W C) := by
  obtain ⟨bmB, F, q⟩ := B.q
  exact ps_raise (t := fun _ H Q => Q (.ref C) none H) hc tk (pmk_own F q B.gC B.kC (raises_own B.exC B.tyC) hg hdb)
theorem passF {X : Cx} : Passes (L2.CX X.prog X.w) X (fun _ _ _ => False) := fun _ _ _ _ _ _ _ h => by
  obtain ⟨_, _, _, _, _, _, _, _, _, _, _, _, z⟩ := h
  exact z.elim
theorem u_raise1 (B : Ex1 X.prog X.w X.K X.mg X.base k x C fld) (hc : X.calm = true) (tk : Takes X W) (hr : Room j X.A) (hk : k + 1 ≤ j) (hg : Gl X x) (ha : PA X (e :: es) ta) (hdb : (x == ("__debug__" : Str)) = false := by decide)
    (he : starEach (e :: es) X.env = (false, eval e X.env) :: starEach es X.env := by rfl) (hpl : (backTo pos (starEach es X.env)).any (·.1) = false := by rfl) : PS X (.Raise (some (.Call (.Name x p) (e :: es) [] pos)) none pos') (tRaise1 W C fld ta) := by
  obtain ⟨f, fd, ps, F, iC, tI, hb⟩ := B.ex
  exact ps_raise (t := tMkO C (spX C fld) [] ta) hc tk (pmk_oex B.T iC tI F (hr.mono hk) hb .nil passF hg B.gC ha hdb he hpl)
end
section
variable {K : Frag} {ρ ρ' : List Sl} {x : Vd} {d : D} {W : WX} {C : Addr} {P : Oc → Prop} {fld : Str} {ta : TA}
theorem sv_raise0 (h : P (.ex C none ρ)) : SV K W (tRaise0 W C) ρ P := fun b G H σ D o q => q _ h none σ G H o True.intro
theorem sv_raise1 (ha : AV K ta ρ [x]) (s : Stb x d) (h : P (.ex C (some [(fld, d)]) ρ)) : SV K W (tRaise1 W C fld ta) ρ P := fun b G H σ D o q => ha b G H σ _ o fun vs G1 H1 g1 r1 => by
  obtain ⟨v, rfl, rv⟩ := vrs1 r1
  obtain ⟨G2, g2, _, r2⟩ := rv.stb g1 s
  refine ⟨Nat.le_of_ble_eq_true rfl, fun a ha' => ⟨a, v, rfl, upd_same, fun dx hdx hne => ⟨rfl, dx, [(fld, v)], upd_same, ?_, ?_, ?_⟩⟩⟩
  · rw [upd_ne hne, upd_same]
  · rw [upd_ne hne] at hdx
    exact hdx
  · rw [upd_ne hne] at hdx
    have e : upd (del (upd (upd (upd H1 a (exo a C none)) dx (exd dx [(fld, v)])) a (exo a C (some dx))) a) dx (.xd [(fld, v)]) = upd H1 dx (.xd [(fld, v)]) := by
      funext z
      by_cases z1 : z = dx
      · rw [z1, upd_same, upd_same]
      · rw [upd_ne z1, upd_ne z1]
        by_cases z2 : z = a
        · rw [z2, del_same, ha']
        · rw [del_ne z2, upd_ne z2, upd_ne z1, upd_ne z2]
    rw [e]
    obtain ⟨g3, s3⟩ := Gr.new g2.gh (.xd [(fld, v)]) hdx
    exact q _ h (some dx) σ _ _ (o.gr (g2.trans g3)) ⟨_, upd_same, .cons (Rep.mono s3 _ r2) .nil⟩
end

/-! ### try: several clauses, some with a name -/
abbrev Cl := Value × Option Nat × (Addr → Value → Option Addr → TS)
/-- behind a suite with a name: its slot is let go -/
def unN (i : Nat) (D : Ends) : Ends := { nx := fun σ H => D.nx (σ.set i none) H, rt := D.rt, bk := fun σ H => D.bk (σ.set i none) H, ct := fun σ H => D.ct (σ.set i none) H }
def atCl (D : Ends) (σ : L2.St) (H : Hp) (cls : Value) (d : Option Addr) (a : Addr) : Option Nat × (Addr → Value → Option Addr → TS) → Prop
  | (none, ts) => ts a cls d D σ H
  | (some i, ts) => ts a cls d (unN i D) (σ.set i (some (.ref a))) H
/-- what the clauses wish of an exception of the body -/
def wCl (K : Frag) (Wo : WX) (D : Ends) : List Cl → WX
  | [] => Wo
  | (c, nt) :: r => fun cls d σ H => ∃ b, PySem.W.exmOne K cls c = some b ∧ (b = true → ∀ a, H a = none → atCl D σ H cls d a nt) ∧ (b = false → wCl K Wo D r cls d σ H)
inductive HdN (X : Cx) : List ExceptHandler → List Cl → Prop
  | nil : HdN X [] []
  | only {x : Str} {c : Value} {ts : Addr → Value → Option Addr → TS} {s0 : Stmt} {ss : List Stmt} {np pp : Pos} {hds : List ExceptHandler} {l : List Cl} (hc : Names X x c)
      (hsu : ∀ (a : Addr) (oe : Obj) (cls : Value) (d : Option Addr) (pn : List (Addr × Obj)), Zc cls d oe → (∃ vs, oe.data = .fields vs) → PSs (X.suite a ((a, oe) :: pn)) (s0 :: ss) (ts a cls d)) (r : HdN X hds l) :
      HdN X (.ExceptHandler (some (.Name x np)) none (s0 :: ss) pp :: hds) ((c, none, ts) :: l)
  | as {x n : Str} {i : Nat} {c : Value} {ts : Addr → Value → Option Addr → TS} {s0 : Stmt} {ss : List Stmt} {np pp : Pos} {hds : List ExceptHandler} {l : List Cl} (hN : X.N.Nodup) (hi : X.N[i]? = some n) (hl : X.env.kindOf n = some .local) (hc : Names X x c)
      (hsu : ∀ (a : Addr) (oe : Obj) (cls : Value) (d : Option Addr) (pn : List (Addr × Obj)), Zc cls d oe → (∃ vs, oe.data = .fields vs) → PSs (X.suite a ((a, oe) :: pn)) (s0 :: ss) (ts a cls d)) (r : HdN X hds l) :
      HdN X (.ExceptHandler (some (.Name x np)) (some n) (s0 :: ss) pp :: hds) ((c, some i, ts) :: l)
theorem Ex0.names {x : Str} {C : Addr} {X : Cx} (B : Ex0 X.K X.mg x C) (hg : Gl X x := by rfl) (hdb : (x == ("__debug__" : Str)) = false := by decide) : Names X x (.ref C) := ⟨hg, hdb, .inl B.gC⟩
theorem Ex1.names {k : Nat} {x fld : Str} {C : Addr} {X : Cx} (B : Ex1 X.prog X.w X.K X.mg X.base k x C fld) (hg : Gl X x := by rfl) (hdb : (x == ("__debug__" : Str)) = false := by decide) : Names X x (.ref C) := ⟨hg, hdb, .inl B.gC⟩
section
variable {X : Cx} {body : List Stmt} {h0 : ExceptHandler} {hds : List ExceptHandler} {l : List Cl} {pos : Pos} {tb : WX → TS} {Wo : WX}
def tTry (K : Frag) (Wo : WX) (l : List Cl) (tb : WX → TS) : TS := fun D σ H => tb (wCl K Wo D l) D σ H
/-- the clauses, tried at an exception that has landed -/
theorem clauses_ok {pins : List (Addr × Obj)} {σ : L2.St} {H : Hp} {sI s : Shared} {h3 B : Heap} {a : Addr} {cls : Value} {d : Option Addr} {D : Ends} (ok : X.Ok) (hst : X.stack = X.env :: X.outer) (hf : X.env.frame = some X.env.locals) (tk : Takes X Wo)
    (J : Inv X pins σ H sI) (nb : ∀ b o, sI.heap.get? b = some o → b ∉ frs X.stack → B.get? b = some o) (up : sI.heap.UpToSlots h3) (os : s.os = sI.os) (ag : AllBare s.gens) (na : H a = none)
    (fl : HandSPX.FlyingZ B (X.env :: X.outer) a (Zc cls d) h3) :
    ∀ {hds : List ExceptHandler} {l : List Cl}, HdN X hds l → wCl X.K Wo D l cls d σ H → wpAny (model X.prog X.w) X.A (handleBy (.ref a) X.env hds) (SP X pins D) X.xe { s with heap := h3 } := by
  have J3 : Inv X pins σ H { s with heap := h3 } := J.landed nb fl.1 up os ag
  obtain ⟨oe3, vs3, he3, hz3, hd3⟩ := fl.there
  have nfr : a ∉ frs (X.env :: X.outer) := fun hm => by
    obtain ⟨_, ob, eo, hnf⟩ := fl.2.2.1.mem hm
    rw [he3] at eo
    cases eo
    exact hnf _ hd3
  have nL : a ≠ X.env.locals := fun z => nfr (List.mem_filterMap.mpr ⟨X.env, List.mem_cons_self, by rw [hf, z]⟩)
  have nF : a ∉ X.fs := fun hm => by
    obtain ⟨ev, hev, qe⟩ := List.mem_filterMap.mp hm
    exact nfr (List.mem_filterMap.mpr ⟨ev, List.mem_cons_of_mem _ hev, qe⟩)
  have S3 := J3.suite he3 hd3 na nL nF
  have LT : PySem.W.Looks (model X.prog X.w) h3 (typeOf (.ref a)) cls := fun A Q E s k q => wpAny_typeOf_ref (k _ _ he3) (by rw [hz3.1]; exact q)
  have test : ∀ {x : Str} {c : Value} {np : Pos} {Q : Value → Shared → Prop} {E : Value → Shared → Prop}, Names X x c → Q c { s with heap := h3 } → wpAny (model X.prog X.w) (X.A.mark (some (.ref a))) (eval (.Name x np) X.env) Q E { s with heap := h3 } := fun {x c np Q E} hc q => by
    obtain ⟨hg, hdbg, hm | ⟨hm, hv, hnn⟩⟩ := hc
    · exact ld_glob (X := X.suite a ((a, oe3) :: (X.pn ++ pins))) S3 hg hm q hdbg
    · exact ld_blt (X := X.suite a ((a, oe3) :: (X.pn ++ pins))) S3 hg hm hv q hnn hdbg
  intro hds l hk
  induction hk with
  | nil =>
    intro w
    refine wpAny_handleBy_nil ?_
    obtain ⟨k1, k2, k3, oe, vs, T, oT, ts', he, hz, hd, h1, hr⟩ := id fl
    unfold PySem.passOn
    refine wpAny_bind (wpAny_field he hd h1 ?_)
    rw [if_neg (show ¬ ((Value.ref T == Value.none) = true) from by simp)]
    have fin : wpAny (model X.prog X.w) X.A (setFlight (.ref a) X.env.frame) (fun _ s4 => wpAny (model X.prog X.w) X.A (throw (.ref a) : Sem Flow) (SP X pins D) X.xe s4) X.xe { s with heap := h3 } := by
      rw [hf]
      refine HandSPX.setFlight_upZ fl fun h4 hh4 up4 => wpAny_throw (tk _ _ ?_)
      exact ⟨a, B, sI, pins, σ, H, cls, d, rfl, J, nb, up.trans up4, .inr (.inr (by rw [hst]; exact hh4)), na, os, ag, w⟩
    first
      | exact wpAny_bind (wpAny_pure (wpAny_bind fin))
      | exact wpAny_bind fin
  | @only x c ts s0 ss np pp hds2 l2 hc hsu r ih =>
    intro w
    obtain ⟨b, hb1, hyes, hno⟩ := w
    refine wpAny_handleBy_cons (codeAny_handlers_test ?_) (by intro q; cases q)
    refine test hc ((PySem.W.exm_one (M := model X.prog X.w) J3.kIn LT hb1).here ?_)
    cases b with
    | true =>
      refine codeAny_handlers_suite ?_
      refine HandSPX.lands_againZ fl fun h4 fl4 up4 => ?_
      have J4 : Inv X pins σ H { s with heap := h4 } := J.landed nb fl4.1 (up.trans up4) os ag
      obtain ⟨oe4, vs4, he4, hz4, hd4⟩ := fl4.there
      refine wpAny_mono ((hsu a oe4 cls d (X.pn ++ pins) hz4 ⟨_, hd4⟩).run [] _ _ H D (J4.suite he4 hd4 na nL nF) (hyes rfl a na)) (fun f s6 hsp => ?_) (fun _ _ z => False.elim z)
      cases f with
      | ret u => obtain ⟨v6, σ6, H6, S6, r6, q6⟩ := hsp; exact ⟨_, _, _, S6.unsuite ok, r6, q6⟩
      | next => obtain ⟨σ6, H6, S6, q6⟩ := hsp; exact ⟨_, _, S6.unsuite ok, q6⟩
      | brk => obtain ⟨σ6, H6, S6, q6⟩ := hsp; exact ⟨_, _, S6.unsuite ok, q6⟩
      | cont => obtain ⟨σ6, H6, S6, q6⟩ := hsp; exact ⟨_, _, S6.unsuite ok, q6⟩
    | false =>
      show wpAny _ X.A (handleBy (.ref a) X.env hds2) _ _ _
      exact ih (hno rfl)
  | @as x n i c ts s0 ss np pp hds2 l2 hN hi hl hc hsu r ih =>
    intro w
    obtain ⟨b, hb1, hyes, hno⟩ := w
    refine wpAny_handleBy_cons (codeAny_handlers_test ?_) (by intro q; cases q)
    refine test hc ((PySem.W.exm_one (M := model X.prog X.w) J3.kIn LT hb1).here ?_)
    cases b with
    | true =>
      refine codeAny_handlers_suite_as ?_
      refine HandSPX.lands_againZ fl fun h4 fl4 up4 => ?_
      have J4 : Inv X pins σ H { s with heap := h4 } := J.landed nb fl4.1 (up.trans up4) os ag
      obtain ⟨oe4, vs4, he4, hz4, hd4⟩ := fl4.there
      refine store_ok (X := X.suite a ((a, oe4) :: (X.pn ++ pins))) (v := .ref a) (J4.suite he4 hd4 na nL nF) hN hi (.inl hl) rfl (fun s5 S5 => ?_) (.inr hl)
      refine wpAny_mono ((hsu a oe4 cls d (X.pn ++ pins) hz4 ⟨_, hd4⟩).run [] s5 _ H (unN i D) S5 (hyes rfl a na)) (fun f s6 hsp => ?_) (fun _ _ z => False.elim z)
      have away : ∀ {σ6 : L2.St} {H6 : Hp} {Q : Shared → Prop}, Inv (X.suite a ((a, oe4) :: (X.pn ++ pins))) [] σ6 H6 s6 → (∀ s7, Inv X pins (σ6.set i none) H6 s7 → Q s7) →
          wpAny (model X.prog X.w) X.A (do bindName X.env n .none; unbindBehindTheSuite X.env n pp) (fun _ s7 => Q s7) X.xe s6 := fun {σ6 H6 Q} S6 hq => gone_ok (S6.unsuite ok) hN hi hl hq
      cases f with
      | ret u => obtain ⟨v6, σ6, H6, S6, r6, q6⟩ := hsp; exact away S6 fun s7 J7 => ⟨_, _, _, J7, r6, q6⟩
      | next => obtain ⟨σ6, H6, S6, q6⟩ := hsp; exact away S6 fun s7 J7 => ⟨_, _, J7, q6⟩
      | brk => obtain ⟨σ6, H6, S6, q6⟩ := hsp; exact away S6 fun s7 J7 => ⟨_, _, J7, q6⟩
      | cont => obtain ⟨σ6, H6, S6, q6⟩ := hsp; exact away S6 fun s7 J7 => ⟨_, _, J7, q6⟩
    | false =>
      show wpAny _ X.A (handleBy (.ref a) X.env hds2) _ _ _
      exact ih (hno rfl)
theorem u_try (hst : X.stack = X.env :: X.outer) (hf : X.env.frame = some X.env.locals) (tk : Takes X Wo)
    (hb : ∀ (W : WX) (pn : List (Addr × Obj)) (xe : Value → Shared → Prop), Takes (X.tr pn xe) W → PassesOwn (model X.prog X.w) X.A X.env xe → PSs (X.tr pn xe) body (tb W))
    (hh : HdN X (h0 :: hds) l) : PS X (.Try body (h0 :: hds) [] [] pos) (tTry X.K Wo l tb) := by
  refine ⟨fun pins s σ H D I h => ?_⟩
  have ok := I.ok
  have hfr : X.A.frames = some (X.env :: X.outer) := by rw [ok.frames, hst]
  refine wpAny_Try_except ?_
  let xc : Value → Shared → Prop := fun e s1 => wpAny (model X.prog X.w) X.A (noteFrame e X.env) (fun _ s2 => wpAny (model X.prog X.w) X.A (setFlight e none) (fun _ s3 => wpAny (model X.prog X.w) X.A (handleBy e X.env (h0 :: hds)) (SP X pins D) X.xe s3) X.xe s2) X.xe s1
  have tc : Takes (X.tr (X.pn ++ pins) xc) (wCl X.K Wo D l) := fun u s' xx => by
    obtain ⟨a, B, sI, pins', σ', H', cls, d, rfl, J', nb, up, sky, na, os, ag, w⟩ := xx
    have J : Inv X pins σ' H' sI := J'.ofTry ok
    have sky' : Sky B (X.env :: X.outer) a (Zc cls d) X.env.locals s'.heap := by rw [← hst]; exact sky
    exact Sky.land Zc.steady hfr hf sky' fun h3 fl3 up3 => clauses_ok ok hst hf tk J nb (up.trans up3) os ag na fl3 hh w
  refine wpAny_mono ((hb (wCl X.K Wo D l) (X.pn ++ pins) xc tc PassesOwn.looking).run [] s σ H D (I.toTry _) h) (fun f s1 hsp => ?_) (fun e s1 he => he)
  cases f with
  | ret u => obtain ⟨v, σ', H', J', r, q⟩ := hsp; exact ⟨v, σ', H', J'.ofTry ok, r, q⟩
  | next => obtain ⟨σ', H', J', q⟩ := hsp; exact wpAny_execs_nil ⟨σ', H', J'.ofTry ok, q⟩
  | brk => obtain ⟨σ', H', J', q⟩ := hsp; exact ⟨σ', H', J'.ofTry ok, q⟩
  | cont => obtain ⟨σ', H', J', q⟩ := hsp; exact ⟨σ', H', J'.ofTry ok, q⟩
end

/-! ### try, on data -/
def W0 : WX := fun _ _ _ _ => False
/-- what is wanted behind a suite (nothing leaves it as an exception) -/
def SuN (i : Option Nat) (P : Oc → Prop) : Oc → Prop
  | .nx ρ => P (.nx (match i with | some i => ρ.set i Sl.un | none => ρ))
  | .bk ρ => P (.bk (match i with | some i => ρ.set i Sl.un | none => ρ))
  | .ct ρ => P (.ct (match i with | some i => ρ.set i Sl.un | none => ρ))
  | .rt d ρ => P (.rt d ρ)
  | .ex _ _ _ => False
/-- what the clauses ask at an exception of class C, its fields fx, at the slots ρ -/
def HnD (K : Frag) (C : Addr) (fx : Option (List (Str × D))) (ρ : List Sl) (P : Oc → Prop) : List Cl → Prop
  | [] => P (.ex C fx ρ)
  | (c, none, ts) :: r => ∃ b, PySem.W.exmOne K (.ref C) c = some b ∧ (b = true → ∀ a od, SV K W0 (ts a (.ref C) od) ρ (SuN none P)) ∧ (b = false → HnD K C fx ρ P r)
  | (c, some i, ts) :: r => ∃ b, PySem.W.exmOne K (.ref C) c = some b ∧ (b = true → ∃ fs, fx = some fs ∧ ∀ a dd, SV K W0 (ts a (.ref C) (some dd)) (ρ.set i (Sl.im (.exv a dd fs))) (SuN (some i) P)) ∧ (b = false → HnD K C fx ρ P r)
def TrP (K : Frag) (l : List Cl) (P : Oc → Prop) : Oc → Prop
  | .ex C fx ρ => HnD K C fx ρ P l
  | o => P o
section
variable {K : Frag} {ρ : List Sl} {W Wo : WX} {P : Oc → Prop} {tb : WX → TS} {l : List Cl}
theorem wcl_ok {b : Bs} {G H : Hp} {σ : L2.St} {En : Ends} {C : Addr} {fx : Option (List (Str × D))} {od : Option Addr} (q : ∀ o, P o → Post K b En Wo o) (o : Ok K b G H σ ρ) (ex : Exc K G H od fx) : ∀ {l : List Cl}, HnD K C fx ρ P l → wCl K Wo En l (.ref C) od σ H
  | [], h => q _ h od σ G H o ex
  | (c, none, ts) :: r, h => by
    obtain ⟨k, h1, h2, h3⟩ := h
    refine ⟨k, h1, fun hk a na => h2 hk a od b G H σ En o fun oc hoc => ?_, fun hk => wcl_ok q o ex (h3 hk)⟩
    cases oc with
    | nx ρ' => exact q (.nx ρ') hoc
    | bk ρ' => exact q (.bk ρ') hoc
    | ct ρ' => exact q (.ct ρ') hoc
    | rt d ρ' => exact q (.rt d ρ') hoc
    | ex C' fx' ρ' => exact hoc.elim
  | (c, some i, ts) :: r, h => by
    obtain ⟨k, h1, h2, h3⟩ := h
    refine ⟨k, h1, fun hk a na => ?_, fun hk => wcl_ok q o ex (h3 hk)⟩
    obtain ⟨fs, rfl, h4⟩ := h2 hk
    cases od with
    | none => exact ex.elim
    | some dd =>
      obtain ⟨vs, e1, e2⟩ := ex
      have o2 : Ok K b G H (σ.set i (some (.ref a))) (ρ.set i (Sl.im (.exv a dd fs))) := o.set i (.exv e1 e2)
      refine h4 a dd b G H _ (unN i En) o2 fun oc hoc => ?_
      cases oc with
      | nx ρ' => exact fun σ' G' H' o' => q (.nx (ρ'.set i Sl.un)) hoc _ G' H' (o'.clear i none)
      | bk ρ' => exact fun σ' G' H' o' => q (.bk (ρ'.set i Sl.un)) hoc _ G' H' (o'.clear i none)
      | ct ρ' => exact fun σ' G' H' o' => q (.ct (ρ'.set i Sl.un)) hoc _ G' H' (o'.clear i none)
      | rt d ρ' => exact q (.rt d ρ') hoc
      | ex C' fx' ρ' => exact hoc.elim
theorem sv_try (h : ∀ W, SV K W (tb W) ρ (TrP K l P)) : SV K Wo (tTry K Wo l tb) ρ P := fun b G H σ D o q => h _ b G H σ D o fun oc hoc => by
  cases oc with
  | nx ρ' => exact q (.nx ρ') hoc
  | bk ρ' => exact q (.bk ρ') hoc
  | ct ρ' => exact q (.ct ρ') hoc
  | rt d ρ' => exact q (.rt d ρ') hoc
  | ex C fx ρ' => exact fun od σ' G' H' o' ex => wcl_ok q o' ex hoc
/-- err.f in an except suite -/
theorem ev_xf {a dd C : Addr} {fs : List (Str × D)} {f : Str} {te : TE} {d : D} (h : EV K te ρ (.st (.exv a dd fs))) (l : fs.lookup f = some d) : EV K (tXf a (.ref C) (some dd) C f te) ρ (.st d) := fun b G H σ Q o q => h b G H σ _ o fun v G' H' g r => by
  have r' : Rep K G' v (.exv a dd fs) := r
  cases r' with
  | @exv _ _ vs _ e1 e2 =>
    obtain ⟨w, h3, h4⟩ := e2.look l
    exact ⟨rfl, rfl, dd, vs, w, rfl, g.gh _ _ e1, h3, q w G' H' g h4⟩
end
theorem u_efld {k : Nat} {x fld : Str} {X : Cx} {a C : Addr} {oe : Obj} {cls : Value} {d : Option Addr} {pn : List (Addr × Obj)} {e : Expr} {te : TE} {pos : Pos} (B : Ex1 X.prog X.w X.K X.mg X.base k x C fld) (hz : Zc cls d oe) (hf : ∃ vs, oe.data = .fields vs) (he : PE (X.suite a ((a, oe) :: pn)) e te)
    (hb : attributeBase e fld X.env (eval e X.env) = eval e X.env := by rfl) : PE (X.suite a ((a, oe) :: pn)) (.Attribute e fld pos) (tXf a cls d C fld te) := pe_xf B.X B.no hz hf he hb
end DL

set_option maxRecDepth 100000
set_option maxHeartbeats 4000000
/-! The data layer, part i: sorted(t), set(t) of a tuple of int tuples. -/
namespace DL
open PySem
open PyProof.Rows
section
variable {prog : Program} {w : World} {A : Around} {E : Value → Shared → Prop} {s : Shared}
/-- collect of a tuple -/
theorem collect_tup {l : Addr} {vs : List Value} {Q : List Value → Shared → Prop} (hl : s.heap.IsTuple l vs.toArray) (hz : vs.length ≤ sizeLine)
    (h : ∀ h', (∀ b o, s.heap.get? b = some o → h'.get? b = some o) → s.heap.objs.size ≤ h'.objs.size → Q vs { s with heap := h' }) : wpAny (model prog w) A (collect (.ref l)) Q E s := by
  obtain ⟨o, ho, hc, n, hd⟩ := id hl
  have grow : ∀ b u, s.heap.get? b = some u → ((s.heap.push (seqObj "list" #[] 0)).update s.heap.objs.size (Obj.mapSeq (· ++ vs.toArray))).get? b = some u := fun b u e => by
    rw [Heap.get?_update_ne _ _ _ _ (Nat.ne_of_lt (Heap.lt_size e))]
    exact Heap.get?_push_of_some _ e
  unfold collect
  refine wpAny_bind (wpAny_runValue (codeAny_builtin entry_proto_collect' ?_))
  show wpAny _ _ (do again (.builtin "list.__iadd__" ⟨[← newList [], .ref l], []⟩)) _ _ s
  refine wpAny_bind (wpAny_newList (wpAny_pure ⟨Code.quiet_builtin _ (by decide +kernel), codeAny_builtin entry_list_iadd' ?_⟩))
  unfold Builtin.«list.__iadd__»
  show wpAny _ _ (Builtin.List.listExtendWith (.ref s.heap.objs.size) (.ref l) (.ref s.heap.objs.size)) _ _ { s with heap := s.heap.push (seqObj "list" #[] 0) }
  unfold Builtin.List.listExtendWith
  have ho1 : (s.heap.push (seqObj "list" #[] 0)).get? l = some o := Heap.get?_push_of_some _ ho
  refine wpAny_bind (wpAny_typeOf (T := "tuple") ⟨o, ho1, hc⟩ ?_)
  rw [if_pos (by rw [show (Value.type "tuple" == Value.type "tuple") = true from rfl, Bool.or_true])]
  refine wpAny_bind (listItems_at ho1 hd ?_)
  have new : (s.heap.push (seqObj "list" #[] 0)).get? s.heap.objs.size = some (seqObj "list" #[] 0) := Heap.get?_push_size _ rfl
  refine wpAny_bind (listItems_at (xs := #[]) (n := 0) new rfl ?_)
  rw [if_neg (by simp)]
  refine wpAny_bind (listUpdate_at (xs := #[]) (n := 0) new rfl ?_ (Nat.zero_le _) (by show (#[] ++ vs.toArray).size ≤ sizeLine + 1; simp only [Array.size_append, List.size_toArray, List.length_nil]; omega))
  refine wpAny_pure ?_
  show wpAny (model prog w) A (do
      let o ← load s.heap.objs.size
      match o.data with
      | .seq xs _ => pure xs.toList
      | _ => unsupported "internal:collect") Q E { s with heap := (s.heap.push (seqObj "list" #[] 0)).update s.heap.objs.size (Obj.mapSeq (· ++ vs.toArray)) }
  refine wpAny_bind (wpAny_load (get?_update_seq new _) ?_)
  show wpAny _ _ (pure ((#[] : Array Value) ++ vs.toArray).toList) Q E _
  rw [show ((#[] : Array Value) ++ vs.toArray).toList = vs by simp]
  exact wpAny_pure (h _ grow (by rw [Heap.size_update, size_push']; omega))
/-- sorted(t), t a tuple of tuples of d ints from 0 to less than B -/
theorem sorted_tupT {l : Addr} {vs : List Value} {d : Nat} {B : Int} {Q : Value → Shared → Prop} (hl : s.heap.IsTuple l vs.toArray) (h64 : vs.length < 64) (hd : 1 ≤ d) (x : TS.TupsOk s.heap d B vs)
    (h : ∀ (h' : Heap) (p : Addr) (out : Array Value) (c : Nat), (∀ b o, s.heap.get? b = some o → h'.get? b = some o) → s.heap.objs.size ≤ p → h'.get? p = some (seqObj "list" out c) → out.toList.Perm vs →
      out.toList.Pairwise (fun u v => TS.code B (TS.intsOf s.heap u) ≤ TS.code B (TS.intsOf s.heap v)) → Q (.ref p) { s with heap := h' }) :
    wpAny (model prog w) A (call (.builtin "sorted") [.ref l]) Q E s := by
  refine Calls.call_function_entry kind_sorted plain_sorted entry_sorted (args_sorted1 _) ?_
  unfold Builtin.«sorted»
  refine wpAny_bind (m := checkCount "sorted" 1 1 _) (wpAny_pure ?_)
  refine wpAny_bind (collect_tup hl (by rw [sizeLine_eq]; omega) fun h1 k1 z1 => ?_)
  refine wpAny_bind (wpAny_newList ?_ (by rw [sizeLine_eq]; omega))
  have hoL : (h1.push (seqObj "list" vs.toArray 0)).get? h1.objs.size = some (seqObj "list" vs.toArray 0) := Heap.get?_push_size _ rfl
  have k2 : ∀ b o, s.heap.get? b = some o → (h1.push (seqObj "list" vs.toArray 0)).get? b = some o := fun b o e => Heap.get?_push_of_some _ (k1 b o e)
  have same : ∀ v ∈ vs, TS.intsOf (h1.push (seqObj "list" vs.toArray 0)) v = TS.intsOf s.heap v := fun v hv => by
    obtain ⟨ns, t, _⟩ := x v hv
    rw [(t.keeps fun b o e _ => k2 b o e).ints, t.ints]
  refine wpAny_bind (wpAny_holding (TS.call_sort_tups (s := { s with heap := h1.push (seqObj "list" vs.toArray 0) }) hoL h64 hd (x.keeps fun b o e _ => k2 b o e) fun out a1 a2 => wpAny_pure ⟨_, rfl, ?_⟩))
  obtain ⟨c, hc⟩ := sortedHeap_at (vs := vs) (out := out) hoL
  refine h _ h1.objs.size out c (fun b o e => ?_) z1 hc a1 (List.Pairwise.imp_of_mem (fun {u v} hu hv q => ?_) a2)
  · have q1 := Heap.lt_size (k1 b o e)
    rw [sortedHeap_old (Nat.ne_of_lt q1) (by rw [size_push']; exact Nat.lt_succ_of_lt q1)]
    exact k2 b o e
  · rw [same u (a1.mem_iff.mp hu), same v (a1.mem_iff.mp hv)] at q
    exact q

open L2 in
set_option maxHeartbeats 12000000 in
/-- set(t), t a tuple of int tuples -/
theorem call_set_tupT {l : Addr} {items : Array Value} (ks : List (Addr × List Int)) {Q : Value → Shared → Prop} (hh : A.handled = none) (hl : s.heap.IsTuple l items) (hit : items.toList = ks.map fun p => Value.ref p.1)
    (hk : ∀ p ∈ ks, IsT prog w s.heap p.2 p.1) (hfew : ks.length < 64) (hu : A.units + 3 < cLine)
    (h : ∀ (h' : Heap) (tk : Nat) L es ep t, SetTR prog w h' s.heap.objs.size L es ep t → Got ks ks.length L → (∀ b o, s.heap.get? b = some o → h'.get? b = some o) → Q (.ref s.heap.objs.size) { s with heap := h', toks := tk }) :
    wpAny (model prog w) A (call (.type "set") [.ref l]) Q E s := by
  have hisz : items.size = ks.length := by
    have z := congrArg List.length hit
    simpa using z
  obtain ⟨c, tl, hmro⟩ := F.called_set.mro
  have hmade := F.called_set.made
  have hsub := F.called_set.sub
  have ntype := F.called_set.notType
  have ncan := F.called_set.canCreate
  have ncall := F.typeCall_set_1 (.ref l)
  refine wpAny_call (codeAny_of_tree ?_)
  show wpAny _ _ (callAny (.type "set") _) _ _ _
  refine wpAny_pure ⟨Code.quiet_builtin _ (by decide +kernel), codeAny_builtin F.entry_type_call ?_⟩
  rw [Around.under_plain (weight_type_call_type "set" [.ref l] []) rfl]
  repeat (any_goals (first | assumption | wp_step))
  let e0 : Obj := { cls := .type "set", dict := none, data := .set #[] 0 (.fresh 0 0 (!w.params.followText "set-order")) }
  refine codeAny_mono (code_set_led1 (.ref l) (E := E) (Q₁ := fun obj s1 => obj = .ref s.heap.objs.size ∧ s1 = { s with heap := s.heap.push e0 }) ⟨rfl, rfl⟩) fun r s1 hr => ?_
  rcases r with er | (obj | _ | _ | _) <;> first | exact hr | exact hr.elim | skip
  obtain ⟨rfl, rfl⟩ := hr
  have hS : (s.heap.push e0).get? s.heap.objs.size = some e0 := Heap.get?_push_size _ rfl
  have hT : Shared.TypeIs { s with heap := s.heap.push e0 } (.ref s.heap.objs.size) "set" := ⟨_, hS, rfl⟩
  have hli := F.called_set.init.lookup
  have hbi := F.called_set.init.bind (.ref s.heap.objs.size)
  repeat (any_goals (first | assumption | wp_step))
  refine codeAny_mono (codeAny_call_builtin (R := wants (fun r s2 => r = .none ∧ ∃ h' tk L es ep t, s2 = { s with heap := h', toks := tk } ∧ SetTR prog w h' s.heap.objs.size L es ep t ∧ Got ks ks.length L ∧
      (∀ b o, s.heap.get? b = some o → h'.get? b = some o)) E) F.called_set.init.plain F.entry_set_init (check_set_init_1 hT ?_)) fun r2 s2 hr2 => ?_
  · obtain ⟨ol, hol, hcl, nl, hdl⟩ := hl
    obtain ⟨ocls, odict, odata, oslots⟩ := ol
    simp only at hcl hdl
    subst hcl; subst hdl
    have hol1 : (s.heap.push e0).get? l = some { cls := .type "tuple", dict := odict, data := .seq items nl, slots := oslots } := Heap.get?_push_of_some _ hol
    have hsls := F.sub_tuple_set
    have hslf := F.sub_tuple_frozenset
    have hne : (Value.type "tuple" == Value.type "dict") = false := by decide
    have hl1 : (s.heap.push e0).IsTuple l items := ⟨_, hol1, rfl, nl, rfl⟩
    unfold Builtin.«set.__init__» noKeywords Builtin.Frozenset.updateFrom
    generalize hPI : pyIter = PI
    wp_walk
    subst hPI
    refine wpAny_pyIter_tuple hl1 ?_
    refine wpAny_bind (wpAny_runValue ?_)
    have hlS : l < s.heap.objs.size := Heap.lt_size hol
    have hh3 : A.in1.in1.in1.handled = none := by simp [hh]
    have hz1 : (s.heap.push e0).objs.size = s.heap.objs.size + 1 := Heap.size_push ..
    have hneI : l ≠ (s.heap.push e0).objs.size := by
      rw [hz1]; exact Nat.ne_of_lt (Nat.lt_succ_of_lt hlS)
    have hSf : s.heap.objs.size ∉ [(s.heap.push e0).objs.size, l] := by
      rw [hz1]; simp only [List.mem_cons, List.mem_singleton, List.not_mem_nil, or_false, not_or]
      exact ⟨Nat.ne_of_lt (Nat.lt_succ_self _), Nat.ne_of_gt hlS⟩
    have hval : ∀ (i : Nat) (v : Value), items[i]? = some v → ∃ p, ks[i]? = some p ∧ v = .ref p.1 := fun i v hv => by
      have z : items.toList[i]? = some v := by rw [Array.getElem?_toList]; exact hv
      rw [hit, List.getElem?_map] at z
      cases hq : ks[i]? with
      | none => rw [hq] at z; cases z
      | some p =>
        rw [hq] at z
        exact ⟨p, rfl, (Option.some.inj z).symm⟩
    have none_of : ∀ b, s.heap.objs.size ≤ b → s.heap.get? b = none := fun b hb => by
      cases z : s.heap.get? b with
      | none => rfl
      | some o => exact absurd (Nat.lt_of_lt_of_le (Heap.lt_size z) hb) (Nat.lt_irrefl _)
    refine set_update_tups ((Walks.tuple hh3 _ l hneI items).toS) s.heap.objs.size
      hSf ks hisz hfew hval s.heap hk (none_of _ (Nat.le_refl _)) (fun b hb => none_of b (by
        rw [List.mem_singleton.mp hb, hz1]
        exact Nat.le_succ _)) hu (items.size - 0) 0 _ (by omega) (Nat.zero_le _)
      ⟨⟨_, Heap.get?_push_size _ rfl, rfl, rfl⟩, (hl1.push _)⟩ (fun b o e => Heap.get?_push_of_some _ (Heap.get?_push_of_some _ e)) ?hS0 ?hR
    case hS0 => exact ⟨[], #[], 0, _, setTR_fresh (Heap.get?_push_of_some _ hS), Got.zero ks⟩
    case hR =>
      intro s' L es ep t hm hS' g' hkp
      obtain ⟨h', g2, d', tk', os'⟩ := s'
      have eg : g2 = s.gens := hm.gens
      have ed : d' = s.drawn := hm.drawn
      have eo : os' = s.os := hm.os
      subst eg; subst ed; subst eo
      refine wpAny_pure ?_
      show wpAny _ _ (ret Value.none) _ _ _
      rw [hisz] at g'
      exact wpAny_pure ⟨rfl, h', tk', L, es, ep, t, rfl, hS', g', hkp⟩
  · rcases r2 with er | (obj | _ | _ | _) <;> first | exact hr2 | exact hr2.elim | skip
    obtain ⟨rfl, h', tk, L, es, ep, t, rfl, hS', g', hk'⟩ := hr2
    repeat (any_goals (first | assumption | wp_step))
    exact h _ _ _ _ _ _ hS' g' hk'
end
end DL

set_option maxRecDepth 100000
set_option maxHeartbeats 4000000
/-! The data layer, part j: sorted(..), len(set(..)) of lists or tuples of int tuples, on data; small rules. -/
namespace DL
open PySem L2
open PyProof.Rows

/-! ### lists of int tuples as data -/
def tupD (k : List Int) : D := .tup (k.map D.int)
/-- by the code -/
def cle (a b : List Int) : Bool := decide (TS.code 64 a ≤ TS.code 64 b)
def srt (kss : List (List Int)) : List (List Int) := kss.mergeSort cle
/-- each one once -/
def once {α : Type} [DecidableEq α] : List α → List α
  | [] => []
  | x :: l => if x ∈ once l then once l else x :: once l
section
variable {α : Type} [DecidableEq α]
theorem mem_once : ∀ {l : List α} {x : α}, x ∈ once l ↔ x ∈ l
  | [], x => Iff.rfl
  | y :: l, x => by
    unfold once
    by_cases h : y ∈ once l
    · rw [if_pos h, mem_once, List.mem_cons]
      exact ⟨.inr, fun z => z.elim (fun e => by rw [e]; exact mem_once.mp h) id⟩
    · rw [if_neg h, List.mem_cons, List.mem_cons, mem_once]
theorem nodup_once : ∀ l : List α, (once l).Nodup
  | [] => List.nodup_nil
  | y :: l => by
    unfold once
    by_cases h : y ∈ once l
    · rw [if_pos h]; exact nodup_once l
    · rw [if_neg h]; exact List.nodup_cons.mpr ⟨h, nodup_once l⟩
theorem once_of_nodup : ∀ {l : List α}, l.Nodup → once l = l
  | [], _ => rfl
  | y :: l, h => by
    obtain ⟨h1, h2⟩ := List.nodup_cons.mp h
    unfold once
    rw [once_of_nodup h2, if_neg h1]
theorem once_le : ∀ l : List α, (once l).length ≤ l.length
  | [] => Nat.le_refl _
  | y :: l => by
    have := once_le l
    unfold once
    split
    · exact Nat.le_succ_of_le this
    · exact Nat.succ_le_succ this
/-- as long as before: each stood there once -/
theorem nodup_of_once : ∀ {l : List α}, (once l).length = l.length → l.Nodup
  | [], _ => List.nodup_nil
  | y :: l, h => by
    have := once_le l
    unfold once at h
    by_cases q : y ∈ once l
    · rw [if_pos q] at h
      simp only [List.length_cons] at h
      omega
    · rw [if_neg q] at h
      exact List.nodup_cons.mpr ⟨fun z => q (mem_once.mpr z), nodup_of_once (by simpa using h)⟩
theorem once_len {L l : List α} (hn : L.Nodup) (h1 : ∀ x ∈ L, x ∈ l) (h2 : ∀ x ∈ l, x ∈ L) : L.length = (once l).length :=
  ((List.perm_ext_iff_of_nodup hn (nodup_once l)).mpr fun x => ⟨fun h => mem_once.mpr (h1 x h), fun h => h2 x (mem_once.mp h)⟩).length_eq
end

theorem code_inj {B : Int} : ∀ {ns ms : List Int}, ns.length = ms.length → TS.Bd B ns → TS.Bd B ms → TS.code B ns = TS.code B ms → ns = ms
  | [], [], _, _, _, _ => rfl
  | [], _ :: _, h, _, _, _ => by simp at h
  | _ :: _, [], h, _, _, _ => by simp at h
  | d :: r, e :: q, hl, h1, h2, h => by
    have hl' : r.length = q.length := by simpa using hl
    rcases Int.lt_trichotomy d e with y | y | y
    · have := TS.code_lt hl' h1.tail h2.tail y
      omega
    · subst y
      have a1 := (TS.code_same (B := B) (d := d) hl')
      have a2 := (TS.code_same (B := B) (d := d) hl'.symm)
      have : TS.code B r = TS.code B q := by omega
      rw [code_inj hl' h1.tail h2.tail this]
    · have := TS.code_lt hl'.symm h2.tail h1.tail y
      omega
theorem cle_trans (a b c : List Int) (h1 : cle a b = true) (h2 : cle b c = true) : cle a c = true := by
  unfold cle at *
  simp only [decide_eq_true_eq] at *
  omega
theorem cle_total (a b : List Int) : (cle a b || cle b a) = true := by
  unfold cle
  simp only [Bool.or_eq_true, decide_eq_true_eq]
  omega
theorem srt_perm (kss : List (List Int)) : (srt kss).Perm kss := List.mergeSort_perm _ _
theorem srt_pw (kss : List (List Int)) : (srt kss).Pairwise (fun a b => cle a b = true) := List.pairwise_mergeSort cle_trans cle_total _
/-- a good list of int tuples -/
def Kss (d : Nat) (kss : List (List Int)) : Prop := ∀ k ∈ kss, k.length = d ∧ TS.Bd 64 k
theorem srt_uniq {d : Nat} {kss es : List (List Int)} (hk : Kss d kss) (hp : es.Perm kss) (hw : es.Pairwise (fun a b => TS.code 64 a ≤ TS.code 64 b)) : es = srt kss := by
  have pp : es.Perm (srt kss) := hp.trans (srt_perm kss).symm
  refine List.Perm.eq_of_pairwise (le := fun a b => cle a b = true) (fun a b ha hb h1 h2 => ?_) (List.Pairwise.imp (fun h => decide_eq_true h) hw) (srt_pw kss) pp
  unfold cle at h1 h2
  simp only [decide_eq_true_eq] at h1 h2
  obtain ⟨l1, b1⟩ := hk a (hp.mem_iff.mp ha)
  obtain ⟨l2, b2⟩ := hk b ((srt_perm kss).mem_iff.mp hb)
  exact code_inj (l1.trans l2.symm) b1 b2 (by omega)
theorem kss_srt {d : Nat} {kss : List (List Int)} (hk : Kss d kss) : Kss d (srt kss) := fun k h => hk k ((srt_perm kss).mem_iff.mp h)
/-- a sorted one is its own sorted -/
theorem srt_of {d : Nat} {kss : List (List Int)} (hk : Kss d kss) (h : kss.Pairwise (fun a b => TS.code 64 a ≤ TS.code 64 b)) : srt kss = kss := (srt_uniq hk (List.Perm.refl _) h).symm

section
variable {K : Frag} {G H : Hp}
theorem tupD_at {v : V} {k : List Int} (r : Rep K G v (tupD k)) : ∃ a, v = .ref a ∧ SqT K G a (k.map V.int) := by
  unfold tupD at r
  cases r with
  | @tup a ws _ h1 h2 =>
    rw [reps_ints h2] at h1
    exact ⟨a, rfl, h1⟩
theorem reps_keys : ∀ {kss : List (List Int)} {vs : List V}, Reps K G vs (kss.map tupD) → ∃ ks : List (Addr × List Int), vs = ks.map (fun p => V.ref p.1) ∧ ks.map (·.2) = kss ∧ ∀ p ∈ ks, SqT K G p.1 (p.2.map V.int)
  | [], _, h => by cases h; exact ⟨[], rfl, rfl, fun p h => nomatch h⟩
  | k :: kss, _, h => by
    cases h with
    | cons a r =>
      obtain ⟨ks, rfl, rfl, h3⟩ := reps_keys r
      obtain ⟨b, rfl, h4⟩ := tupD_at a
      refine ⟨(b, k) :: ks, rfl, rfl, fun p hp => ?_⟩
      rcases List.mem_cons.mp hp with rfl | hp
      · exact h4
      · exact h3 p hp
theorem reps_perm {α : Type} (en : α → D) : ∀ {ys xs : List V}, ys.Perm xs → ∀ {as : List α}, Reps K G xs (as.map en) → ∃ bs : List α, bs.Perm as ∧ Reps K G ys (bs.map en) := by
  intro ys xs p
  induction p with
  | nil => intro as r; cases as with | nil => exact ⟨[], .refl _, .nil⟩ | cons a as => cases r
  | cons x p ih =>
    intro as r
    cases as with
    | nil => cases r
    | cons a as =>
      cases r with
      | cons h r =>
        obtain ⟨bs, h1, h2⟩ := ih r
        exact ⟨a :: bs, h1.cons a, .cons h h2⟩
  | swap x y l =>
    intro as r
    cases as with
    | nil => cases r
    | cons a as =>
      cases r with
      | cons h r =>
        cases as with
        | nil => cases r
        | cons b as =>
          cases r with
          | cons h' r => exact ⟨b :: a :: as, List.Perm.swap a b as, .cons h' (.cons h r)⟩
  | trans p1 p2 ih1 ih2 =>
    intro as r
    obtain ⟨bs, h1, h2⟩ := ih2 r
    obtain ⟨cs, h3, h4⟩ := ih1 h2
    exact ⟨cs, h3.trans h1, h4⟩
end

/-! ### the rules -/
/-- sorted(t), t a tuple -/
def rSortTT (K : Frag) : List V → Hp → VK → Prop := fun vs H Q => ∃ (a : Addr) (xs : List V), vs = [V.ref a] ∧ SqT K H a xs ∧ xs.length < 64 ∧ (∀ x ∈ xs, ∃ ns, TupI K H x ns ∧ ns.length = 3 ∧ TS.Bd 64 ns) ∧
  ∀ (ys : List V) (p : Addr), ys.Perm xs → ys.Pairwise (fun x y => ∀ n m, TupI K H x n → TupI K H y m → TS.code 64 n ≤ TS.code 64 m) → H p = none → Q (.ref p) (upd H p (.lst ys))
def rSortD (K : Frag) : List V → Hp → VK → Prop := fun vs H Q => rSortU K 3 64 vs H Q ∨ rSortTT K vs H Q
def rSetTT (K : Frag) (P : Program) (w : World) : List V → Hp → VK → Prop := fun xs H Q => ∃ (l : Addr) (ks : List (Addr × List Int)), xs = [V.ref l] ∧ SqT K H l (ks.map fun p => V.ref p.1) ∧ (∀ p ∈ ks, SqT K H p.1 (p.2.map V.int)) ∧ ks.length < 64 ∧
  ∀ a L, H a = none → (∀ p ∈ L, p ∈ ks) → (∀ p ∈ ks, p.2 ∈ L.map (·.2)) → Q (.ref a) (upd H a (SetTO P w a L))
def rSetD (K : Frag) (P : Program) (w : World) : List V → Hp → VK → Prop := fun vs H Q => rSetOfT K P w vs H Q ∨ rSetTT K P w vs H Q
def rLenSet (K : Frag) (P : Program) (w : World) : List V → Hp → VK → Prop := fun xs H Q => ∃ (a : Addr) (L : List (Addr × List Int)), xs = [V.ref a] ∧ H a = some (SetTO P w a L) ∧ (∀ p ∈ L, SqT K H p.1 (p.2.map V.int)) ∧ ((L.map (·.2)).Nodup → Q (.int L.length) H)
section
variable {X : Cx}
theorem CallR.or {f : Value} {r r' : List V → Hp → VK → Prop} (h : CallR X f r) (h' : CallR X f r') : CallR X f (fun xs H Q => r xs H Q ∨ r' xs H Q) := by
  intro pins s σ H xs us Q I rv q
  rcases q with q | q
  · exact h pins s σ H xs us Q I rv q
  · exact h' pins s σ H xs us Q I rv q
theorem cr_sortTT : CallR X (.builtin "sorted") (rSortTT X.K) := by
  intro pins s σ H vs us Q I r h
  obtain ⟨a, xs, rfl, hs, h64, hx, q⟩ := h
  obtain ⟨its, rv, hl, hz⟩ := I.tuple hs
  rw [Vals.ref1 r]
  obtain ⟨e1, e2⟩ := bkV_refs rv fun x m => by
    obtain ⟨ns, ⟨t, e, _⟩, _⟩ := hx x m
    exact ⟨t, e⟩
  refine sorted_tupT (d := 3) (B := 64) hl (by rw [← rv.length]; exact h64) (by decide) (fun v hv => ?_) fun h' p out c k1 hp ho h1 h2 => ?_
  · obtain ⟨t, rfl⟩ := e2 v hv
    have hm : V.ref t ∈ xs := by
      rw [e1]
      exact List.mem_map.mpr ⟨_, hv, rfl⟩
    obtain ⟨ns, ⟨t', e, ht⟩, hn, hb⟩ := hx _ hm
    cases e
    exact ⟨ns, tupI_raw I ht, hn, hb⟩
  · have h3 : ∀ u ∈ out.toList, ∃ a, u = Value.ref a := fun u hu => e2 u (h1.mem_iff.mp hu)
    have hpm : (out.toList.map bkV).Perm xs := by
      rw [e1]
      exact h1.map bkV
    have hlen : (out.toList.map bkV).length ≤ sizeLine := by
      rw [hpm.length_eq]
      exact hz
    refine ⟨.ref p, upd H p (.lst (out.toList.map bkV)), I.laid (t' := s.toks) k1 hp ⟨hlen, out.toList, c, bkV_vals h3, ho⟩, rfl, q _ _ hpm ?_ (I.hok.fresh hp)⟩
    rw [List.pairwise_map]
    refine List.Pairwise.imp (fun {u v} huv n m hn hm => ?_) h2
    obtain ⟨t, et, ht⟩ := hn
    obtain ⟨t', et', ht'⟩ := hm
    have i1 : TS.intsOf s.heap u = n := by rw [bkV_ref et]; exact (tupI_raw I ht).ints
    have i2 : TS.intsOf s.heap v = m := by rw [bkV_ref et']; exact (tupI_raw I ht').ints
    rw [← i1, ← i2]
    exact huv
theorem u_sorted : CallR X (.builtin "sorted") (rSortD X.K) := CallR.or (cr_sortT (by decide)) cr_sortTT
theorem cr_setTT (hc : X.calm = true) (hu : X.A.units + 64 < cLine) : CallR X (.type "set") (rSetTT X.K X.prog X.w) := by
  intro pins s σ H xs us Q I r h
  obtain ⟨l, ks, rfl, hl, hk, hf, q⟩ := h
  rw [Vals.ref1 r]
  obtain ⟨its, rv, pl, hz⟩ := I.tuple hl
  have hn : H s.heap.objs.size = none := I.hok.fresh (Nat.le_refl _)
  refine call_set_tupT (prog := X.prog) (w := X.w) ks (I.ok.hd hc) pl (by simpa using refs_of_vals rv) (fun p hp => I.isT (hk p hp)) hf (by omega) fun h' tk L es ep t R g k => ?_
  refine ⟨.ref s.heap.objs.size, upd H s.heap.objs.size (SetTO X.prog X.w s.heap.objs.size L), I.laid (t' := tk) k (Nat.le_refl _) (setTO_new R.t0), rfl, q _ L hn (fun p hp => ?_) fun p hp => ?_⟩
  · exact List.mem_of_mem_take (g.sub p hp)
  · exact g.all p (by rw [List.take_length]; exact hp)
theorem u_set (hc : X.calm = true) (hu : X.A.units + 64 < cLine) : CallR X (.type "set") (rSetD X.K X.prog X.w) := CallR.or (cr_setOfT hc hu) (cr_setTT hc hu)
theorem u_lenset : CallR X (.builtin "len") (rLenSet X.K X.prog X.w) := by
  intro pins s σ H xs us Q I r h
  obtain ⟨a, L, rfl, ha, hk, q⟩ := h
  rw [Vals.ref1 r]
  have R0 : SetT0 X.prog X.w s.heap a L := (I.hok a _ ha).1
  obtain ⟨es, ep, t, R⟩ := R0.full fun p hp => I.isT (hk p hp)
  obtain ⟨o, ho, hex, hd⟩ := R.ob
  have hsz := R.size
  have hfew := R.few
  exact call_len_set ho hex hd R.fits (by omega) ⟨.int L.length, H, I.tok _, ⟨_, by rw [hsz]⟩, q R.nd⟩
theorem u_gint {x : Str} {n : Int} {pos : Pos} (k : ∃ t, X.mg x = some (.int n t)) (hg : Gl X x) (hd : (x == ("__debug__" : Str)) = false := by decide) : PE X (.Name x pos) (tC (.int n)) := by
  obtain ⟨t, h⟩ := k
  exact pe_glob hg h ⟨t, rfl⟩ hd
end
theorem u65 {k : Nat} {A : Around} (r : Room k A) : A.units + 65 < cLine := by
  have := r.un
  omega
/-! ### on data -/
section
variable {K : Frag} {ρ : List Sl} {t : TE} {x : Vd}
theorem bd_tup {G H : Hp} (s : Same G H) {vs : List V} {kss : List (List Int)} (hk : Kss 3 kss) (r : Reps K G vs (kss.map tupD)) : ∀ v ∈ vs, ∃ ns, TupI K H v ns ∧ ns.length = 3 ∧ TS.Bd 64 ns := fun v hv => by
  obtain ⟨i, hi, e⟩ := List.getElem_of_mem hv
  obtain ⟨d, h1, h2⟩ := r.getV (i := i) (v := v) (by rw [List.getElem?_eq_getElem hi, e])
  rw [List.getElem?_map] at h1
  cases e2 : kss[i]? with
  | none => rw [e2] at h1; cases h1
  | some k =>
    rw [e2] at h1
    have e3 : tupD k = d := by simpa using h1
    subst e3
    obtain ⟨a, rfl, h3⟩ := tupD_at h2
    obtain ⟨h4, h5⟩ := hk k (List.mem_of_getElem? e2)
    exact ⟨k, ⟨a, rfl, sqt_mono s h3⟩, h4, h5⟩
theorem pw_keys {G H : Hp} (s : Same G H) : ∀ {ys : List V} {es : List (List Int)}, Reps K G ys (es.map tupD) → ys.Pairwise (fun x y => ∀ n m, TupI K H x n → TupI K H y m → TS.code 64 n ≤ TS.code 64 m) → es.Pairwise (fun a b => TS.code 64 a ≤ TS.code 64 b)
  | [], [], _, _ => .nil
  | [], _ :: _, r, _ => by cases r
  | _ :: _, [], r, _ => by cases r
  | y :: ys, e :: es, r, h => by
    cases r with
    | cons a r =>
      obtain ⟨h1, h2⟩ := List.pairwise_cons.mp h
      refine List.pairwise_cons.mpr ⟨fun f hf => ?_, pw_keys s r h2⟩
      obtain ⟨i, hi, ef⟩ := List.getElem_of_mem hf
      obtain ⟨v, g1, g2⟩ := r.get (i := i) (d := tupD f) (by rw [List.getElem?_map, List.getElem?_eq_getElem hi, ef]; rfl)
      obtain ⟨b, rfl, h3⟩ := tupD_at a
      obtain ⟨c, rfl, h4⟩ := tupD_at g2
      exact h1 _ (List.mem_of_getElem? g1) e f ⟨b, rfl, sqt_mono s h3⟩ ⟨c, rfl, sqt_mono s h4⟩
theorem sort_fin {H0 G H : Hp} {vs : List V} {kss : List (List Int)} {Q : VK} (s : Same G H) (hk : Kss 3 kss) (h2 : Reps K G vs (kss.map tupD)) (q : ∀ w G' H', Gr G H G' H' → VR K H G' H' w (.fr ((srt kss).map tupD)) → Q w H') :
    ∀ (ys : List V) (p : Addr), ys.Perm vs → ys.Pairwise (fun x y => ∀ n m, TupI K H x n → TupI K H y m → TS.code 64 n ≤ TS.code 64 m) → H p = none → Q (.ref p) (upd H p (.lst ys)) := fun ys p hp hw hn => by
  obtain ⟨es, h3, h4⟩ := reps_perm tupD hp h2
  obtain rfl := srt_uniq hk h3 (pw_keys s h4 hw)
  obtain ⟨g, n⟩ := Gr.newO s (.lst ys) hn
  exact q _ _ _ g ⟨p, ys, rfl, hn, n, upd_same, h4⟩
theorem sort_lst {kss : List (List Int)} (l : Lsd x (kss.map tupD)) (hk : Kss 3 kss) (hl : kss.length < 64) : CbD K (rSortD K) [x] (.fr ((srt kss).map tupD)) := fun H0 G H vs Q _ s a q => by
  obtain ⟨v, rfl, r⟩ := vrs1 a
  obtain ⟨p, ws, rfl, h1, h2⟩ := r.lsd s l
  exact .inl ⟨p, ws, rfl, h1, by rw [h2.length, List.length_map]; exact hl, bd_tup s hk h2, sort_fin (H0 := H0) s hk h2 q⟩
theorem sort_tup {kss : List (List Int)} (hk : Kss 3 kss) (hl : kss.length < 64) : CbD K (rSortD K) [.st (.tup (kss.map tupD))] (.fr ((srt kss).map tupD)) := fun H0 G H vs Q _ s a q => by
  obtain ⟨v, rfl, r⟩ := vrs1 a
  have r' : Rep K G v (.tup (kss.map tupD)) := r
  cases r' with
  | @tup p ws _ h1 h2 => exact .inr ⟨p, ws, rfl, sqt_mono s h1, by rw [h2.length, List.length_map]; exact hl, bd_tup s hk h2, sort_fin (H0 := H0) s hk h2 q⟩
theorem ev_lenset {P : Program} {w : World} {kss : List (List Int)} (h : EV K t ρ x) (l : Lsd x (kss.map tupD) ∨ x = .st (.tup (kss.map tupD))) (hl : kss.length < 64) :
    EV K (tCB (rLenSet K P w) (tCons (tCB (rSetD K P w) (tCons t tNil)) tNil)) ρ (.st (.int (once kss).length)) := fun b G H σ Q o q => h b G H σ _ o fun v G1 H1 g1 r1 => by
  have fin : ∀ {ks : List (Addr × List Int)}, (∀ p ∈ ks, SqT K G1 p.1 (p.2.map V.int)) → ks.map (·.2) = kss → ∀ a L, H1 a = none → (∀ p ∈ L, p ∈ ks) → (∀ p ∈ ks, p.2 ∈ L.map (·.2)) → rLenSet K P w [V.ref a] (upd H1 a (SetTO P w a L)) Q := fun {ks} hk hs a L hn h1 h2 => by
    refine ⟨a, L, rfl, upd_same, fun p hp => sqt_mono (g1.gh.trans fun c u hc => by rw [upd_ne (ne_of_none hc hn)]; exact hc) (hk p (h1 p hp)), fun hd => ?_⟩
    have e : L.length = (once kss).length := by
      rw [← List.length_map (f := (·.2)) (as := L), ← hs]
      refine once_len hd (fun y hy => ?_) (fun y hy => ?_)
      · obtain ⟨p, hp, rfl⟩ := List.mem_map.mp hy
        exact List.mem_map.mpr ⟨p, h1 p hp, rfl⟩
      · obtain ⟨p, hp, rfl⟩ := List.mem_map.mp hy
        exact h2 p hp
    rw [e]
    obtain ⟨g2, _⟩ := Gr.newO g1.gh (SetTO P w a L) hn
    exact q _ _ _ (g1.trans g2) (.int _)
  rcases l with l | rfl
  · obtain ⟨p, ws, rfl, h1, h2⟩ := r1.lsd g1.gh l
    obtain ⟨ks, rfl, hs, h3⟩ := reps_keys h2
    exact .inl ⟨p, ks, rfl, h1, fun z hz => sqt_mono g1.gh (h3 z hz), by rw [← hs, List.length_map] at hl; exact hl, fin h3 hs⟩
  · have r' : Rep K G1 v (.tup (kss.map tupD)) := r1
    cases r' with
    | @tup p ws _ h1 h2 =>
      obtain ⟨ks, rfl, hs, h3⟩ := reps_keys h2
      exact .inr ⟨p, ks, rfl, sqt_mono g1.gh h1, fun z hz => sqt_mono g1.gh (h3 z hz), by rw [← hs, List.length_map] at hl; exact hl, fin h3 hs⟩
end
/-! ### == of ints, of texts -/
section
variable {K : Frag}
theorem eqD_int (i j : Int) : eqD (.int i) (.int j) = decide (i = j) := by
  unfold eqD py
  first | rfl | (simp [PyData.eqv]; done) | (rw [Bool.eq_iff_iff]; simp [PyData.eqv])
theorem eqD_str (i j : Str) : eqD (.str i) (.str j) = decide (i = j) := by
  unfold eqD py
  first | rfl | (simp [PyData.eqv]; done) | (rw [Bool.eq_iff_iff]; simp [PyData.eqv])
theorem eq_int {i j : Int} : OpD K (rEqD K) (.st (.int i)) (.st (.int j)) (.st (.bl (decide (i = j)))) := by
  rw [← eqD_int]
  exact eq_dat .st .st rfl rfl
theorem ne_int {i j : Int} : OpD K (rNeD K) (.st (.int i)) (.st (.int j)) (.st (.bl (!decide (i = j)))) := by
  rw [← eqD_int]
  exact ne_dat .st .st rfl rfl
theorem eq_str {i j : Str} (h1 : eqOk (.str i) = true) (h2 : eqOk (.str j) = true) : OpD K (rEqD K) (.st (.str i)) (.st (.str j)) (.st (.bl (decide (i = j)))) := by
  rw [← eqD_str]
  exact eq_dat .st .st h1 h2
theorem ne_str {i j : Str} (h1 : eqOk (.str i) = true) (h2 : eqOk (.str j) = true) : OpD K (rNeD K) (.st (.str i)) (.st (.str j)) (.st (.bl (!decide (i = j)))) := by
  rw [← eqD_str]
  exact ne_dat .st .st h1 h2
end
theorem thn_nx {K : Frag} {W : WX} {u : TS} {ρ : List Sl} {P : Oc → Prop} (h : SV K W u ρ P) : Thn K W u P (.nx ρ) := h
theorem tv_yes {K : Frag} {ρ : List Sl} : TV K tYes ρ true := fun b G H σ Q o q => q G H o.refl
end DL

set_option maxRecDepth 100000
set_option maxHeartbeats 4000000
/-! The data layer, part k: == and in on int tuples; slices as take and drop. -/
namespace DL
open PySem L2
/-- may stand on a side of ==, by depth -/
structure Ed (n : Nat) (d : D) : Prop where
  f : flat d = true
  c : (py d).canLay0 = true
  p : (py d).depth ≤ n
theorem Ed.ok {n : Nat} {d : D} (h : Ed n d) (hn : n ≤ 64) : eqOk d = true := by
  unfold eqOk SeqAt.shaped
  rw [h.f, h.c, decide_eq_true (Nat.le_trans h.p hn)]
  rfl
theorem Ed.int (i : Int) : Ed 1 (.int i) := ⟨rfl, by simp [py, PyData.canLay0], by simp [py, PyData.depth]⟩
theorem Ed.bl (b : Bool) : Ed 1 (.bl b) := ⟨rfl, by simp [py, PyData.canLay0], by simp [py, PyData.depth]⟩
theorem Ed.non : Ed 1 .non := ⟨rfl, by simp [py, PyData.canLay0], by simp [py, PyData.depth]⟩
theorem Ed.str {s : Str} (h : (PyData.str s).canLay0 = true) : Ed 1 (.str s) := ⟨rfl, h, by simp [py, PyData.depth]⟩
theorem Ed.mono {n m : Nat} {d : D} (h : Ed n d) (k : n ≤ m) : Ed m d := ⟨h.f, h.c, Nat.le_trans h.p k⟩
structure Eds (n : Nat) (ds : List D) : Prop where
  f : flats ds = true
  c : PyData.canLayAll0 (pys ds) = true
  p : PyData.depthAll (pys ds) ≤ n
theorem Eds.nil {n : Nat} : Eds n [] := ⟨rfl, by simp [pys, PyData.canLayAll0], by simp [pys, PyData.depthAll]⟩
theorem Eds.cons {n : Nat} {d : D} {ds : List D} (h : Ed n d) (k : Eds n ds) : Eds n (d :: ds) :=
  ⟨by simp [flats, h.f, k.f], by simp [pys, PyData.canLayAll0, h.c, k.c], by
    simp only [pys, PyData.depthAll]
    exact Nat.max_le.mpr ⟨h.p, k.p⟩⟩
theorem Eds.of {n : Nat} : ∀ {ds : List D}, (∀ d ∈ ds, Ed n d) → Eds n ds
  | [], _ => .nil
  | d :: ds, h => .cons (h d List.mem_cons_self) (Eds.of fun e he => h e (List.mem_cons_of_mem _ he))
theorem Eds.tup {n : Nat} {ds : List D} (h : Eds n ds) : Ed (n + 1) (.tup ds) := ⟨by simp [flat, h.f], by simp [py, PyData.canLay0, h.c], by simp only [py, PyData.depth]; exact Nat.succ_le_succ h.p⟩
theorem Eds.lst {n : Nat} {ds : List D} (h : Eds n ds) : Ed (n + 1) (.lst ds) := ⟨by simp [flat, h.f], by simp [py, PyData.canLay0, h.c], by simp only [py, PyData.depth]; exact Nat.succ_le_succ h.p⟩
theorem ed_tupD (k : List Int) : Ed 2 (tupD k) := Eds.tup (Eds.of fun d hd => by
  obtain ⟨i, _, rfl⟩ := List.mem_map.mp hd
  exact .int i)
theorem ed_kss (kss : List (List Int)) : Ed 3 (.lst (kss.map tupD)) := Eds.lst (Eds.of fun d hd => by
  obtain ⟨k, _, rfl⟩ := List.mem_map.mp hd
  exact ed_tupD k)
theorem ed_kst (kss : List (List Int)) : Ed 3 (.tup (kss.map tupD)) := Eds.tup (Eds.of fun d hd => by
  obtain ⟨k, _, rfl⟩ := List.mem_map.mp hd
  exact ed_tupD k)
theorem eqok_tupD (k : List Int) : eqOk (tupD k) = true := (ed_tupD k).ok (by decide)
theorem eqok_kss (kss : List (List Int)) : eqOk (.lst (kss.map tupD)) = true := (ed_kss kss).ok (by decide)
/-- == of lists of data, item by item -/
def eqDs : List D → List D → Bool
  | [], [] => true
  | d :: ds, e :: es => eqD d e && eqDs ds es
  | _, _ => false
theorem eqvAll_pys : ∀ (ds es : List D), PyData.eqvAll (pys ds) (pys es) = eqDs ds es
  | [], [] => by simp [pys, PyData.eqvAll, eqDs]
  | [], e :: es => by simp [pys, PyData.eqvAll, eqDs]
  | d :: ds, [] => by simp [pys, PyData.eqvAll, eqDs]
  | d :: ds, e :: es => by
    have := eqvAll_pys ds es
    simp only [pys, PyData.eqvAll, eqDs, this]
    rfl
theorem eqD_tup (ds es : List D) : eqD (.tup ds) (.tup es) = eqDs ds es := by
  unfold eqD
  simp only [py, PyData.eqv]
  exact eqvAll_pys ds es
theorem eqD_lst (ds es : List D) : eqD (.lst ds) (.lst es) = eqDs ds es := by
  unfold eqD
  simp only [py, PyData.eqv]
  exact eqvAll_pys ds es
theorem eqDs_map {α : Type} [DecidableEq α] (en : α → D) (h : ∀ a b, eqD (en a) (en b) = decide (a = b)) : ∀ as bs : List α, eqDs (as.map en) (bs.map en) = decide (as = bs)
  | [], [] => by simp [eqDs]
  | [], b :: bs => by simp [eqDs]
  | a :: as, [] => by simp [eqDs]
  | a :: as, b :: bs => by
    have := eqDs_map en h as bs
    simp only [List.map_cons, eqDs, h, this]
    rw [Bool.eq_iff_iff]
    simp
theorem eqD_tupD (a b : List Int) : eqD (tupD a) (tupD b) = decide (a = b) := by
  unfold tupD
  rw [eqD_tup]
  exact eqDs_map D.int eqD_int a b
theorem memD_map {α : Type} [DecidableEq α] (en : α → D) (h : ∀ a b, eqD (en a) (en b) = decide (a = b)) (a : α) (as : List α) : memD (en a) (as.map en) = decide (a ∈ as) := by
  unfold memD
  rw [Bool.eq_iff_iff, List.any_eq_true]
  simp only [List.mem_map, decide_eq_true_eq]
  constructor
  · rintro ⟨x, ⟨b, hb, rfl⟩, e⟩
    rw [h, decide_eq_true_eq] at e
    exact e ▸ hb
  · intro h1
    exact ⟨en a, ⟨a, h1, rfl⟩, by rw [h]; exact decide_eq_true rfl⟩
theorem memD_tupD (k : List Int) (kss : List (List Int)) : memD (tupD k) (kss.map tupD) = decide (k ∈ kss) := (memD_map tupD eqD_tupD k kss).trans (by rw [Bool.eq_iff_iff]; simp)
/-! ### slices -/
theorem cutD_pre (ds : List D) (k : Nat) (h : k ≤ ds.length) : cutD ds none (some (k : Int)) = ds.take k := by
  unfold cutD
  rw [HT.sIx_none, HT.sIx_nat, Nat.min_eq_left h, List.drop_zero, Nat.sub_zero]
theorem cutD_suf (ds : List D) (k : Nat) (h : k ≤ ds.length) : cutD ds (some (k : Int)) none = ds.drop k := by
  unfold cutD
  rw [HT.sIx_none, HT.sIx_nat, Nat.min_eq_left h]
  exact List.take_of_length_le (by rw [List.length_drop]; omega)
section
variable {K : Frag} {ρ : List Sl} {t : TE} {x : Vd} {ds : List D}
/-- t[:k], t[k:] of a tuple, k no whole -/
theorem sl_pre {k : Nat} (h : k < ds.length) : SlD K (rSlU K) (.st (.tup ds)) none (some (k : Int)) (.st (.tup (ds.take k))) := by
  have := sl_tpl (K := K) (ds := ds) (lo := none) (hi := some (k : Int)) (by
    rintro ⟨_, h2⟩
    rw [HT.sIx_nat, Nat.min_eq_left (Nat.le_of_lt h)] at h2
    omega)
  rwa [cutD_pre _ _ (Nat.le_of_lt h)] at this
theorem sl_suf {k : Nat} (h : 0 < k) (h2 : k ≤ ds.length) : SlD K (rSlU K) (.st (.tup ds)) (some (k : Int)) none (.st (.tup (ds.drop k))) := by
  have := sl_tpl (K := K) (ds := ds) (lo := some (k : Int)) (hi := none) (by
    rintro ⟨h1, _⟩
    rw [HT.sIx_nat, Nat.min_eq_left h2] at h1
    omega)
  rwa [cutD_suf _ _ h2] at this
theorem sl_preL {k : Nat} (l : Lsd x ds) (h : k ≤ ds.length) : SlD K (rSlU K) x none (some (k : Int)) (.fr (ds.take k)) := by
  have := sl_lst (K := K) (lo := none) (hi := some (k : Int)) l
  rwa [cutD_pre _ _ h] at this
theorem sl_sufL {k : Nat} (l : Lsd x ds) (h : k ≤ ds.length) : SlD K (rSlU K) x (some (k : Int)) none (.fr (ds.drop k)) := by
  have := sl_lst (K := K) (lo := some (k : Int)) (hi := none) l
  rwa [cutD_suf _ _ h] at this
end
theorem atI_nat {α : Type} {xs : List α} {n : Int} (h0 : 0 ≤ n) (h1 : n < (xs.length : Int)) : atI xs n = xs[n.toNat]? := by
  unfold atI ixN
  rw [if_pos h0, if_pos h1]
  rfl
theorem atI_neg {α : Type} {xs : List α} {n : Int} (h0 : n < 0) (h1 : -(xs.length : Int) ≤ n) : atI xs n = xs[(n + xs.length).toNat]? := by
  unfold atI ixN
  rw [if_neg (by omega), if_pos h1]
  rfl
theorem atI_map {α β : Type} {xs : List α} (en : α → β) {n : Int} (d : α) (h0 : 0 ≤ n) (h1 : n < (xs.length : Int)) : atI (xs.map en) n = some (en (xs.getD n.toNat d)) := by
  rw [atI_nat h0 (by rw [List.length_map]; exact h1), List.getElem?_map]
  have : n.toNat < xs.length := by omega
  rw [List.getElem?_eq_getElem this, List.getD_eq_getElem?_getD, List.getElem?_eq_getElem this]
  rfl
theorem atI_last {α : Type} {xs : List α} {x : α} : atI (xs ++ [x]) (-1) = some x := by
  have e : (xs ++ [x]).length = xs.length + 1 := by rw [List.length_append]; rfl
  rw [atI_neg (by omega) (by rw [e]; omega), e]
  have : ((-1 : Int) + ((xs.length + 1 : Nat) : Int)).toNat = xs.length := by omega
  rw [this]
  simp
theorem cutD_init (ds : List D) (d : D) : cutD (ds ++ [d]) none (some (-1)) = ds := by
  have e : (ds ++ [d]).length = ds.length + 1 := by rw [List.length_append]; rfl
  have h : HT.sIx (ds.length + 1) (ds.length + 1) (some (-1)) = ds.length := by
    show (if (-1 : Int) < 0 then ((-1 : Int) + ((ds.length + 1 : Nat) : Int)).toNat else min (-1 : Int).toNat (ds.length + 1)) = ds.length
    rw [if_pos (by decide)]
    omega
  unfold cutD
  rw [HT.sIx_none, e, h, List.drop_zero, Nat.sub_zero, List.take_left]
theorem sl_init {K : Frag} {ds : List D} {d : D} : SlD K (rSlU K) (.st (.tup (ds ++ [d]))) none (some (-1)) (.st (.tup ds)) := by
  have := sl_tpl (K := K) (ds := ds ++ [d]) (lo := none) (hi := some (-1)) (by
    rintro ⟨_, h2⟩
    have e : (ds ++ [d]).length = ds.length + 1 := by rw [List.length_append]; rfl
    rw [e] at h2
    have h : HT.sIx (ds.length + 1) (ds.length + 1) (some (-1)) = ds.length := by
      show (if (-1 : Int) < 0 then ((-1 : Int) + ((ds.length + 1 : Nat) : Int)).toNat else min (-1 : Int).toNat (ds.length + 1)) = ds.length
      rw [if_pos (by decide)]
      omega
    rw [h] at h2
    omega)
  rwa [cutD_init] at this
theorem ev_dnew {K : Frag} {ρ : List Sl} : EV K tDNewK ρ (.st .any) := fun b G H σ Q o q => fun p hp => by
  obtain ⟨g, n⟩ := Gr.newO o.gh (.dK []) hp
  exact q _ _ _ g (.any _)
theorem atI_head {α : Type} {xs : List α} {x : α} : atI (x :: xs) 0 = some x := by
  rw [atI_nat (by omega) (by rw [List.length_cons]; omega)]
  rfl
/-! ### the same rules, the written part named (in a comprehension's block) -/
section
variable {X : Cx}
theorem u_slK (K : Frag) (h : X.K = K := by rfl) : SlR X (rSlU K) := h ▸ u_sl
theorem u_addK (K : Frag) (h : X.K = K := by rfl) : OpR X (binaryOp .Add) (rAddU K) := h ▸ u_add
theorem ix_seqK (K : Frag) (h : X.K = K := by rfl) : IxR X (rIx K) := h ▸ ix_seq
theorem u_lenK (K : Frag) (h : X.K = K := by rfl) : CallR X (.builtin "len") (rLenU K) := h ▸ u_len
theorem op_eqDK (K : Frag) (hu : X.A.units + 64 < cLine) (h : X.K = K := by rfl) : OpR X (compareOp .Eq) (rEqD K) := h ▸ op_eqD hu
theorem op_neDK (K : Frag) (hu : X.A.units + 64 < cLine) (h : X.K = K := by rfl) : OpR X (compareOp .NotEq) (rNeD K) := h ▸ op_neD hu
theorem pe_fldK (K : Frag) {e : Expr} {ta : TE} {f : Str} {pos : Pos} (he : PE X e ta) (hb : attributeBase e f X.env (eval e X.env) = eval e X.env) (h : X.K = K := by rfl) : PE X (.Attribute e f pos) (tFld K ta f) := h ▸ pe_fld he hb
end
/-- a statement that runs through, to these slots -/
theorem sv_to {K : Frag} {W : WX} {t : TS} {ρ : List Sl} {P : Oc → Prop} (ρ' : List Sl) (h : SV K W t ρ (fun o => o = .nx ρ')) (k : P (.nx ρ')) : SV K W t ρ P := sv_imp h (by rintro o rfl; exact k)
theorem cdivW {i j : Int} (h : 0 < j ∧ j < 1000000) : CDivW i j := by
  refine ⟨h.1, ?_⟩
  by_cases z : j.natAbs = 0
  · omega
  · have : j.natAbs < 2 ^ 20 := by
      have : (2 : Nat) ^ 20 = 1048576 := by decide
      omega
    have := (Nat.log2_lt z).mpr this
    omega
theorem sl_wholeL {K : Frag} {x : Vd} {ds : List D} {k : Nat} (l : Lsd x ds) (h : ds.length ≤ k) : SlD K (rSlU K) x none (some (k : Int)) (.fr ds) := by
  have := sl_lst (K := K) (lo := none) (hi := some (k : Int)) l
  have e : cutD ds none (some (k : Int)) = ds := by
    unfold cutD
    rw [HT.sIx_none, HT.sIx_nat, Nat.min_eq_right h, List.drop_zero, Nat.sub_zero, List.take_length]
  rwa [e] at this
theorem add_lst {K : Frag} {x y : Vd} {xs ys : List D} (hx : Lsd x xs) (hy : Lsd y ys) (h : xs.length + ys.length ≤ sizeLine) : OpD K (rAddU K) x y (.fr (xs ++ ys)) := fun H0 G H v u Q _ s a b q => by
  obtain ⟨p, vs, rfl, h1, h2⟩ := a.lsd s hx
  obtain ⟨p', ws, rfl, h3, h4⟩ := b.lsd s hy
  refine .inr (.inr (.inl ⟨p, p', vs, ws, rfl, rfl, h1, h3, by rw [h2.length, h4.length]; exact h, fun c hc => ?_⟩))
  obtain ⟨g, n⟩ := Gr.newO s (.lst (vs ++ ws)) hc
  exact q _ _ _ g ⟨c, _, rfl, hc, n, upd_same, h2.append h4⟩
theorem eqok3 {x y z : Int} : eqOk (.tup [.int x, .int y, .int z]) = true := eqok_tupD [x, y, z]
theorem eq_strV {K : Frag} {i j : Str} : OpD K rEq (.st (.str i)) (.st (.str j)) (.st (.bl (decide (i = j)))) := fun H0 G H v u Q _ s a b q => by
  obtain rfl := rep_str a
  obtain rfl := rep_str b
  refine ⟨rfl, ?_⟩
  have e : decide (V.str i = V.str j) = decide (i = j) := by
    rw [Bool.eq_iff_iff]
    simp
  rw [e]
  exact q _ G H (Gr.refl s) (.bl _)
end DL

set_option maxRecDepth 100000
set_option maxHeartbeats 4000000
/-! The data layer, part l: tests that change what a slot owns. -/
namespace DL
open PySem L2
/-- a test, and the slots behind it -/
def TE' (K : Frag) (t : TT) (ρ : List Sl) (c : Bool) (ρ' : List Sl) : Prop := ∀ (b : Bs) (G H : Hp) (σ : L2.St) (Q : Bool → Hp → Prop), Ok K b G H σ ρ → (∀ G' H', Ok K b G' H' σ ρ' → Q c H') → t σ H Q
section
variable {K : Frag} {ρ ρ' : List Sl} {t u : TS} {ta tb : TE} {x y z : Vd} {d e : D} {W : WX} {P : Oc → Prop} {r : R2}
theorem ee_op1 (ha : EE K ta ρ d ρ') (hb : EV K tb ρ' y) (h : OpD K r (.st d) y (.st e)) : EE K (tOp r ta tb) ρ e ρ' := fun b G H σ Q o q =>
  ha b G H σ _ o fun v G1 H1 o1 r1 => hb b G1 H1 σ _ o1 fun w G2 H2 g2 r2 => h H1 G2 H2 v w Q g2.hh g2.gh (Rep.mono g2.gg _ r1) r2 fun z G3 H3 g3 r3 => q z G3 H3 (o1.gr (g2.trans g3)) r3
theorem te_test {c : Bool} (h : EE K ta ρ (.bl c) ρ') : TE' K (tTest ta) ρ c ρ' := fun b G H σ Q o q => h b G H σ _ o fun v G1 H1 o1 r1 => ⟨c, rep_bl r1, q G1 H1 o1⟩
theorem te_truB {c : Bool} (h : EE K ta ρ (.bl c) ρ') : TE' K (fun σ H Q => ta σ H fun x H' => ∃ k, TruV K x H' k ∧ Q k H') ρ c ρ' := fun b G H σ Q o q => h b G H σ _ o fun v G1 H1 o1 r1 => by
  obtain rfl := rep_bl r1
  exact ⟨c, rfl, q G1 H1 o1⟩
theorem te_not {c : TT} {k : Bool} (h : TE' K c ρ k ρ') : TE' K (tNot c) ρ (!k) ρ' := fun b G H σ Q o q => h b G H σ _ o fun G1 H1 o1 => q G1 H1 o1
theorem sv_ifE {c : TT} {k : Bool} (h : TE' K c ρ k ρ') (h1 : k = true → SV K W t ρ' P) (h2 : k = false → SV K W u ρ' P) : SV K W (tIfS c t u) ρ P := fun b G H σ D o q => h b G H σ _ o fun G' H' o' => by
  cases k with
  | true =>
    show t D σ H'
    exact h1 rfl b G' H' σ D o' q
  | false =>
    show u D σ H'
    exact h2 rfl b G' H' σ D o' q
end
/-! ### the same datum is == -/
mutual
theorem eqD_refl : ∀ {d : D}, flat d = true → eqD d d = true
  | .non, _ => by simp [eqD, py, PyData.eqv]
  | .bl b, _ => by simp [eqD, py, PyData.eqv]
  | .int i, _ => by simp [eqD, py, PyData.eqv]
  | .str s, _ => by rw [eqD_str]; simp
  | .tup ds, h => by rw [eqD_tup]; exact eqDs_refl (by simpa [flat] using h)
  | .lst ds, h => by rw [eqD_lst]; exact eqDs_refl (by simpa [flat] using h)
  | .ins _ _, h => by simp [flat] at h
  | .exv _ _ _, h => by simp [flat] at h
  | .dct _ _, h => by simp [flat] at h
  | .dtt _ _, h => by simp [flat] at h
  | .any, h => by simp [flat] at h
theorem eqDs_refl : ∀ {ds : List D}, flats ds = true → eqDs ds ds = true
  | [], _ => rfl
  | d :: ds, h => by
    have h' : flat d = true ∧ flats ds = true := by simpa [flats] using h
    simp only [eqDs, eqD_refl h'.1, eqDs_refl h'.2, Bool.and_self]
end
end DL

set_option maxRecDepth 100000
set_option maxHeartbeats 4000000
/-! The data layer, part m: fields as parts of a tuple target; promises that are never asked; == of None and texts. -/
namespace DL
open PySem L2
/-- o.f as a target -/
def gFld (K : Frag) (ta : TE) (f : Str) : TG := fun v σ H Q => ta σ H fun x H1 => ∃ a C dx fs, x = .ref a ∧ H1 a = some (.ins C dx fs) ∧ Cls K C ∧ NoAttr K C f ∧ fs.length < 1000 ∧ Q σ (upd H1 a (.ins C dx (putF f v fs)))
theorem pg_fld {X : Cx} {o : Expr} {ta : TE} {f : Str} {pos : Pos} (ho : PE X o ta) : PG X (.Attribute o f pos) (gFld X.K ta f) := by
  refine ⟨fun pins s σ H v u Q I r h => ?_⟩
  rw [PySem.assign_Attribute]
  refine wpAny_bind (wpAny_holding (thn (ho.run pins s σ H _ I h) fun ov s1 ⟨x, H1, I1, rx, a, C, dx, fs, ex, ea, c, n, l, q⟩ => ?_))
  subst ex
  obtain rfl : ov = Value.ref a := rx
  refine wpAny_bind (wpAny_standAt (wpAny_bind (wpAny_holding (setattr_ok I1 ea c n l r fun s3 I3 => ?_))))
  exact wpAny_release ⟨σ, _, I3, q⟩
section
variable {K : Frag} {ρ ρ' ρ'' : List Sl} {te : TE} {d : D} {W : WX} {C : Addr} {fs : List (Str × D)} {P : Oc → Prop}
/-- targets in a row, some of them fields of owned objects -/
def GE (K : Frag) (g : TGs) (ds : List D) (ρ ρ' : List Sl) : Prop := ∀ (b : Bs) (G H : Hp) (σ : L2.St) (vs : List V) (Q : L2.St → Hp → Prop), Ok K b G H σ ρ → Reps K G vs ds → (∀ σ' H', Ok K b G H' σ' ρ' → Q σ' H') → g vs σ H Q
theorem ge_nil : GE K gNil [] ρ ρ := fun b G H σ vs Q o r q => by cases r; exact ⟨rfl, q σ H o⟩
theorem ge_name {i : Nat} {g : TGs} {ds : List D} (h : GE K g ds (ρ.set i (Sl.im d)) ρ') : GE K (gCons (gName i) g) (d :: ds) ρ ρ' := fun b G H σ vs Q o r q => by
  cases r with
  | cons a r => exact ⟨_, _, rfl, h b G H _ _ Q (o.set i a) r q⟩
theorem ge_fld {i : Nat} {f : Str} {g : TGs} {ds : List D} (hi : ρ[i]? = some (Sl.ow (.ins C fs))) (c : Cls K C) (n : NoAttr K C f) (hl : fs.length < 1000) (h : GE K g ds (ρ.set i (Sl.ow (.ins C (putD f d fs)))) ρ') :
    GE K (gCons (gFld K (tVar i) f) g) (d :: ds) ρ ρ' := fun b G H σ vs Q o r q => by
  cases r with
  | cons a r =>
    obtain ⟨a', dx, vs', h1, h2, h3, h4, h5, h6⟩ := o.own_ins hi
    refine ⟨_, _, rfl, _, h1, a', C, dx, vs', rfl, h4, c, n, by rw [h5.length]; exact hl, h b G _ σ _ Q (h6 G _ _ _ ⟨fun z u hz hu => ?_, Same.refl _, fun z hz k => absurd hz k, fun z u hz => ?_⟩ upd_same (RepF.put a h5)) r q⟩
    · rw [upd_ne hz]
      exact hu
    · rw [upd_ne (ne_of_none hz h2)]
      exact o.gh z u hz
theorem sv_tupE {n : Nat} {g : TGs} {ds : List D} (h : EE K te ρ (.tup ds) ρ') (hn : ds.length = n) (hg : GE K g ds ρ' ρ'') (k : P (.nx ρ'')) : SV K W (tAsg te (gTup K n g)) ρ P := fun b G H σ D o q => h b G H σ _ o fun v G' H' o' r => by
  cases r with
  | @tup a vs _ h1 h2 => exact ⟨a, vs, rfl, sqt_mono o'.gh h1, by rw [h2.length]; exact hn, hg b G' H' σ vs _ o' h2 fun σ' H2 o2 => q _ k σ' G' H2 o2⟩
theorem sv_asgX {g : TG} {fx : Option (List (Str × D))} (h : XX K W te ρ C fx ρ') (k : P (.ex C fx ρ')) : SV K W (tAsg te g) ρ P := fun b G H σ D o q => h b G H σ _ o fun od G' H' o' r => q _ k od σ G' H' o' r
/-- a list less its last item -/
theorem sl_initL {x : Vd} {ds : List D} (l : Lsd x (ds ++ [d])) : SlD K (rSlU K) x none (some (-1)) (.fr ds) := by
  have := sl_lst (K := K) (lo := none) (hi := some (-1)) l
  rwa [cutD_init] at this
end
/-- a promise that nobody asks -/
theorem fn_never {P : Program} {w : World} {K : Frag} {mg : Str → Option Value} {base : Heap} {k : Nat} {f : Addr} {fd : FuncData} {ps : List Str} {C : Addr} {R : List (Str × D) → List D → Res → List (Str × D) → Prop} (h : ∀ fs ds r fs', ¬ R fs ds r fs') :
    FnOk P w K mg base (L2.CX P w) k f fd ps (spM K C R) :=
  ⟨fun vs H Q E ⟨_, _, _, _, _, _, _, _, _, _, _, _, _, _, _, hR, _⟩ => (h _ _ _ _ hR).elim, fun _ _ _ _ _ _ vs Q E _ _ _ _ ⟨_, _, _, _, _, _, _, _, _, _, _, _, _, _, _, hR, _⟩ => (h _ _ _ _ hR).elim⟩
theorem ed_str1 (s : Str) (h : (PyData.str s).canLay0 = true) : eqOk (.str s) = true := (Ed.str h).ok (by decide)
theorem eqok_non : eqOk .non = true := Ed.non.ok (by decide)
theorem eqD_nn : eqD .non .non = true := eqD_refl rfl
theorem eqD_sn (s : Str) : eqD (.str s) .non = false := by simp [eqD, py, PyData.eqv]
theorem eqD_ns (s : Str) : eqD .non (.str s) = false := by simp [eqD, py, PyData.eqv]
end DL

set_option maxRecDepth 100000
set_option maxHeartbeats 4000000
/-! The data layer, part n: dicts; defs that change several of their arguments. -/
namespace DL
open PySem L2
def keyD : Key → D
  | .inl i => .int i
  | .inr s => .str s
section
variable {K : Frag} {ρ ρ' : List Sl} {t ta tb tc td te ty tx : TE} {x y z : Vd} {d e : D} {W : WX} {P : Oc → Prop} {kvs : List (Key × D)} {k : Key}
theorem rep_key {G : Hp} {v : V} (h : Rep K G v (keyD k)) : v = kV k := by
  cases k with
  | inl i => exact rep_int h
  | inr s => exact rep_str h
/-- a dict that can be read -/
inductive Dkv : Vd → List (Key × D) → Prop
  | dl {kvs : List (Key × D)} : Dkv (.dl kvs) kvs
  | fd {kvs : List (Key × D)} : Dkv (.fd kvs) kvs
  | st {ks : List Key} {ds : List D} : Dkv (.st (.dct ks ds)) (ks.zip ds)
theorem zip_repP {G : Hp} {vs : List (Key × V)} {ks : List Key} {ds : List D} (e : vs.map (·.1) = ks) (r : Reps K G (vs.map (·.2)) ds) : RepP K G vs (ks.zip ds) := by
  have h1 := r.length
  rw [List.length_map] at h1
  have h2 : ks.length = ds.length := by rw [← e, List.length_map]; exact h1
  refine ⟨?_, ?_⟩
  · show _ = (ks.zip ds).map Prod.fst
    rw [List.map_fst_zip (by omega)]; exact e
  · show Reps K G _ ((ks.zip ds).map Prod.snd)
    rw [List.map_snd_zip (by omega)]; exact r
theorem VR.dkv {H0 G H : Hp} {v : V} (s : Same G H) (r : VR K H0 G H v x) (i : Dkv x kvs) : ∃ a vs, v = .ref a ∧ H a = some (.dK vs) ∧ RepP K G vs kvs := by
  cases i with
  | dl => exact r
  | fd => obtain ⟨a, vs, rfl, _, _, h1, h2⟩ := r; exact ⟨a, vs, rfl, h1, h2⟩
  | st =>
    cases r with
    | dct h1 h2 h3 => exact ⟨_, _, rfl, s _ _ h1, zip_repP h2 h3⟩
theorem ev_ownD {i : Nat} (h : ρ[i]? = some (Sl.ow (.dct kvs))) : EV K (tVar i) ρ (.dl kvs) := fun b G H σ Q o q => by
  obtain ⟨a, hh, h1, h2, h3, h4, h5, _⟩ := o.own h
  cases hh with
  | dK vs => exact ⟨_, h1, q _ G H o.refl ⟨a, vs, rfl, h4, h5⟩⟩
  | _ => exact h5.elim
theorem ev_ownMD {i : Nat} (h : ρ[i]? = some (Sl.ow (.mdc kvs))) : EV K (tVar i) ρ (.dl kvs) := fun b G H σ Q o q => by
  obtain ⟨a, hh, h1, h2, h3, h4, h5, _⟩ := o.own h
  cases hh with
  | dK vs => exact ⟨_, h1, q _ G H o.refl ⟨a, vs, rfl, h4, h5⟩⟩
  | _ => exact h5.elim
theorem ev_ownML {i : Nat} {ds : List D} (h : ρ[i]? = some (Sl.ow (.mls ds))) : EV K (tVar i) ρ (.ls ds) := fun b G H σ Q o q => by
  obtain ⟨a, hh, h1, h2, h3, h4, h5, _⟩ := o.own h
  cases hh with
  | lst vs => exact ⟨_, h1, q _ G H o.refl ⟨a, vs, rfl, h4, h5⟩⟩
  | _ => exact h5.elim
theorem ev_dnewD : EV K tDNewK ρ (.fd []) := fun b G H σ Q o q => fun p hp => by
  obtain ⟨g, n⟩ := Gr.newO o.gh (.dK []) hp
  exact q _ _ _ g ⟨p, [], rfl, hp, n, upd_same, .nil⟩
theorem sv_setD {i : Nat} (h : EV K te ρ (.fd kvs)) (hi : i < ρ.length) (k : P (.nx (ρ.set i (Sl.ow (.dct kvs))))) : SV K W (tAsg te (gName i)) ρ P := fun b G H σ D o q => h b G H σ _ o fun v G' H' g r => by
  obtain ⟨a, vs, rfl, n0, ng, hh, hr⟩ := r
  exact q _ k _ G' H' (Ok.setOwn o (o.gr g) i hi (h := .dK vs) n0 ng hh hr (.inr rfl) rfl)
theorem ev_din (hk : EV K ty ρ (.st (keyD k))) (hd : EV K td ρ x) (i : Dkv x kvs) : EV K (tDIn ty td) ρ (.st (.bl (valD kvs k).isSome)) := fun b G H σ Q o q => hk b G H σ _ o fun v G1 H1 g1 r1 => hd b G1 H1 σ _ (o.gr g1) fun u G2 H2 g2 r2 => by
  obtain rfl := rep_key r1
  obtain ⟨a, vs, rfl, h1, h2⟩ := r2.dkv g2.gh i
  obtain ⟨l1, l2⟩ := h2.look k
  refine ⟨a, _, rfl, DGet.k h1, ?_⟩
  have e : (valV vs k).isSome = (valD kvs k).isSome := by
    cases hv : valD kvs k with
    | none => rw [l2 hv]; rfl
    | some d => obtain ⟨w, hw, _⟩ := l1 d hv; rw [hw]; rfl
  rw [e]
  exact q _ G2 H2 (g1.trans g2) (.bl _)
theorem ev_dnotin (hk : EV K ty ρ (.st (keyD k))) (hd : EV K td ρ x) (i : Dkv x kvs) : EV K (tDNotIn ty td) ρ (.st (.bl (!(valD kvs k).isSome))) := fun b G H σ Q o q => hk b G H σ _ o fun v G1 H1 g1 r1 => hd b G1 H1 σ _ (o.gr g1) fun u G2 H2 g2 r2 => by
  obtain rfl := rep_key r1
  obtain ⟨a, vs, rfl, h1, h2⟩ := r2.dkv g2.gh i
  obtain ⟨l1, l2⟩ := h2.look k
  refine ⟨a, _, rfl, DGet.k h1, ?_⟩
  have e : (valV vs k).isSome = (valD kvs k).isSome := by
    cases hv : valD kvs k with
    | none => rw [l2 hv]; rfl
    | some d => obtain ⟨w, hw, _⟩ := l1 d hv; rw [hw]; rfl
  rw [e]
  exact q _ G2 H2 (g1.trans g2) (.bl _)
theorem ev_dget (hd : EV K td ρ x) (i : Dkv x kvs) (hk : EV K ty ρ (.st (keyD k))) (h : valD kvs k = some d) : EV K (tDGet td ty) ρ (.st d) := fun b G H σ Q o q => hd b G H σ _ o fun u G1 H1 g1 r1 => hk b G1 H1 σ _ (o.gr g1) fun v G2 H2 g2 r2 => by
  obtain rfl := rep_key r2
  obtain ⟨a, vs, rfl, h1, h2⟩ := (r1.gr g2).dkv g2.gh i
  obtain ⟨w, hw, rw'⟩ := (h2.look k).1 d h
  exact ⟨a, w, rfl, by rw [← hw]; exact DGet.k h1, q _ G2 H2 (g1.trans g2) rw'⟩
/-- d.get(k, x) -/
theorem ev_dget2 (hd : EV K td ρ x) (i : Dkv x kvs) (hk : EV K ty ρ (.st (keyD k))) (hx : EV K tx ρ (.st e)) : EV K (tDGet2 td ty tx) ρ (.st ((valD kvs k).getD e)) := fun b G H σ Q o q => hd b G H σ _ o fun u G1 H1 g1 r1 => by
  obtain ⟨a, vs, rfl, h1, h2⟩ := r1.dkv g1.gh i
  refine ⟨a, rfl, .inl ⟨vs, .inl h1⟩, hk b G1 H1 σ _ (o.gr g1) fun v G2 H2 g2 r2 => hx b G2 H2 σ _ ((o.gr g1).gr g2) fun w G3 H3 g3 r3 => ?_⟩
  obtain rfl := rep_key r2
  obtain ⟨l1, l2⟩ := h2.look k
  refine ⟨valV vs k, DGet.k (g3.hh _ _ (g2.hh _ _ h1)), ?_⟩
  cases hv : valD kvs k with
  | none =>
    rw [hv] at q
    rw [l2 hv]
    exact q _ G3 H3 ((g1.trans g2).trans g3) r3
  | some d =>
    obtain ⟨w', hw, rw'⟩ := l1 d hv
    rw [hv] at q
    rw [hw]
    exact q _ G3 H3 ((g1.trans g2).trans g3) (Rep.mono (g2.gg.trans g3.gg) _ rw')
abbrev rLenD : List V → Hp → VK → Prop := fun xs H Q => ∃ a kvs, xs = [V.ref a] ∧ H a = some (.dK kvs) ∧ Q (.int kvs.length) H
theorem len_dct (i : Dkv x kvs) : CbD K rLenD [x] (.st (.int kvs.length)) := fun H0 G H vs Q _ s a q => by
  obtain ⟨v, rfl, r⟩ := vrs1 a
  obtain ⟨p, ws, rfl, h1, h2⟩ := r.dkv s i
  exact ⟨p, ws, rfl, h1, by rw [h2.length]; exact q _ G H (Gr.refl s) (.int _)⟩

/-! ### an owned dict, whoever owns it -/
def OD.dc? : OD → Option (List (Key × D))
  | .dct k => some k
  | .mdc k => some k
  | _ => none
def OD.setD : OD → List (Key × D) → OD
  | .mdc _, k => .mdc k
  | _, k => .dct k
theorem Ok.own_dct {b : Bs} {G H : Hp} {σ : L2.St} (o : Ok K b G H σ ρ) {i : Nat} {u : OD} (h : ρ[i]? = some (Sl.ow u)) (hu : u.dc? = some kvs) : ∃ a vs, σ[i]? = some (some (.ref a)) ∧ G a = none ∧ b.B a = none ∧ H a = some (.dK vs) ∧ RepP K G vs kvs ∧
    (∀ ws es, RepP K G ws es → Ok K b G (upd H a (.dK ws)) σ (ρ.set i (Sl.ow (u.setD es)))) := by
  obtain ⟨a, hh, h1, h2, h3, h4, h5, h6, _⟩ := o.own h
  cases u with
  | dct k =>
    cases hu
    cases hh with
    | dK vs => exact ⟨a, vs, h1, h2, h3, h4, h5, fun ws es r => h6 (.dK ws) (.dct es) r (fun C dx vs e => by cases e) (fun z => nomatch z)⟩
    | _ => exact h5.elim
  | mdc k =>
    cases hu
    cases hh with
    | dK vs => exact ⟨a, vs, h1, h2, h3, h4, h5, fun ws es r => h6 (.dK ws) (.mdc es) r (fun C dx vs e => by cases e) (fun _ => rfl)⟩
    | _ => exact h5.elim
  | _ => cases hu
/-- d[k] = e -/
theorem sv_dput {i : Nat} {u : OD} (he : EV K te ρ x) (s : Stb x d) (h : ρ[i]? = some (Sl.ow u)) (hu : u.dc? = some kvs) (hk : EV K ty ρ (.st (keyD k))) (hl : kvs.length < sizeLine) (c : P (.nx (ρ.set i (Sl.ow (u.setD (putKD kvs k d)))))) :
    SV K W (tAsg te (gSub (tVar i) ty L2.rSetD)) ρ P := fun b G H σ D o q => he b G H σ _ o fun v G1 H1 g1 r1 => by
  obtain ⟨G2, g2, _, r2⟩ := r1.stb g1 s
  obtain ⟨a0, hh, h1, _⟩ := (o.gr g2).own h
  refine ⟨_, h1, hk b G2 H1 σ _ (o.gr g2) fun w G3 H3 g3 r3 => ?_⟩
  obtain rfl := rep_key r3
  obtain ⟨a, vs, k1, k2, k3, k4, k5, k6⟩ := ((o.gr g2).gr g3).own_dct h hu
  have ea : a0 = a := by rw [h1] at k1; simpa using k1
  subst ea
  exact ⟨a0, _, rfl, DPut.k k4 (by rw [k5.length]; exact hl), q _ c σ G3 _ (k6 _ _ (k5.put k (Rep.mono g3.gg _ r2)))⟩
/-- d.pop(k) -/
theorem ee_dpop {i : Nat} {u : OD} (h : ρ[i]? = some (Sl.ow u)) (hu : u.dc? = some kvs) (hk : EV K ty ρ (.st (keyD k))) (hv : valD kvs k = some d) : EE K (tDPop1 (tVar i) ty) ρ d (ρ.set i (Sl.ow (u.setD (dropKD kvs k)))) := fun b G H σ Q o q => by
  obtain ⟨a, vs, h1, h2, h3, h4, h5, _⟩ := o.own_dct h hu
  refine ⟨_, h1, a, rfl, .inl ⟨vs, .inl h4⟩, hk b G H σ _ o fun w G3 H3 g3 r3 => ?_⟩
  obtain rfl := rep_key r3
  obtain ⟨a', vs', k1, k2, k3, k4, k5, k6⟩ := (o.gr g3).own_dct h hu
  have ea : a = a' := by rw [h1] at k1; simpa using k1
  subst ea
  obtain ⟨w, hw, rw'⟩ := (k5.look k).1 d hv
  exact ⟨vs', k, w, k4, rfl, hw, q w G3 _ (k6 _ _ (k5.drop k)) rw'⟩
end

/-! ### defs that change several of their arguments (lists, dicts) -/
/-- as a mark shows it -/
def OD.m : OD → OD
  | .lst ds => .mls ds
  | .dct k => .mdc k
  | o => o
/-- a list or a dict, of the same kind as another one -/
def OD.like : OD → OD → Option OD
  | .lst _, .mls ds => some (.lst ds)
  | .mls _, .mls ds => some (.mls ds)
  | .dct _, .mdc k => some (.dct k)
  | .mdc _, .mdc k => some (.mdc k)
  | _, _ => none
inductive Ar where
  | im (d : D)
  | ow (o : OD)
inductive ArR (K : Frag) (G H : Hp) : List V → List Ar → List Addr → Prop
  | nil : ArR K G H [] [] []
  | im {v : V} {d : D} {vs : List V} {as : List Ar} {ps : List Addr} : Rep K G v d → ArR K G H vs as ps → ArR K G H (v :: vs) (.im d :: as) ps
  | ow {p : Addr} {h : HO} {o : OD} {vs : List V} {as : List Ar} {ps : List Addr} : H p = some h → OwnAt K G h o → o.mk = true → G p = none → p ∉ ps → ArR K G H vs as ps → ArR K G H (.ref p :: vs) (.ow o :: as) (p :: ps)
inductive OwnL (K : Frag) (G H : Hp) : List Addr → List OD → Prop
  | nil : OwnL K G H [] []
  | cons {p : Addr} {ps : List Addr} {h : HO} {o : OD} {os : List OD} : H p = some h → OwnAt K G h o → o.mk = true → G p = none → OwnL K G H ps os → OwnL K G H (p :: ps) (o :: os)
structure GrS (ps : List Addr) (G H G' H' : Hp) : Prop where
  hh : ∀ z u, z ∉ ps → H z = some u → H' z = some u
  gg : Same G G'
  fr : ∀ a, G a = none → G' a ≠ none → H a = none
  gh : Same G' H'
def spO (K : Frag) (R : List Ar → Res → List OD → Prop) : Sp := fun vs H Q E => ∃ (G : Hp) (as : List Ar) (ps : List Addr) (os : List OD) (r : Res), Same G H ∧ ArR K G H vs as ps ∧ R as r os ∧
  (match r with
    | .ret d => ∀ v G' H', GrS ps G H G' H' → OwnL K G' H' ps os → Rep K G' v d → Q v H'
    | .exc C fs => ∀ od G' H', GrS ps G H G' H' → OwnL K G' H' ps os → Exc K G' H' od fs → E (.ref C) od H')
section
variable {K : Frag} {G H : Hp}
theorem ArR.length {vs : List V} {as : List Ar} {ps : List Addr} (h : ArR K G H vs as ps) : vs.length = as.length := by
  induction h with
  | nil => rfl
  | im _ _ ih => simp [ih]
  | ow _ _ _ _ _ _ ih => simp [ih]
def Ar.sl : Ar → Sl
  | .im d => .im d
  | .ow o => .ow o
def startO (N : List Str) (as : List Ar) : List Sl := as.map Ar.sl ++ List.replicate (N.length - as.length) Sl.un
theorem ArR.getIm {vs : List V} {as : List Ar} {ps : List Addr} (h : ArR K G H vs as ps) : ∀ {i : Nat} {d : D}, as[i]? = some (.im d) → ∃ v, vs[i]? = some v ∧ Rep K G v d := by
  induction h with
  | nil => intro i d e; simp at e
  | im r _ ih =>
    intro i d e
    cases i with
    | zero => simp at e; subst e; exact ⟨_, rfl, r⟩
    | succ i => exact ih (by simpa using e)
  | ow _ _ _ _ _ _ ih =>
    intro i d e
    cases i with
    | zero => simp at e
    | succ i => exact ih (by simpa using e)
theorem ArR.getOw {vs : List V} {as : List Ar} {ps : List Addr} (h : ArR K G H vs as ps) : ∀ {i : Nat} {o : OD}, as[i]? = some (.ow o) → ∃ p u, vs[i]? = some (.ref p) ∧ p ∈ ps ∧ H p = some u ∧ OwnAt K G u o ∧ o.mk = true ∧ G p = none := by
  induction h with
  | nil => intro i o e; simp at e
  | im r _ ih =>
    intro i o e
    cases i with
    | zero => simp at e
    | succ i => exact ih (by simpa using e)
  | ow h1 h2 h3 h4 _ _ ih =>
    intro i o e
    cases i with
    | zero => simp at e; subst e; exact ⟨_, _, rfl, List.mem_cons_self, h1, h2, h3, h4⟩
    | succ i =>
      obtain ⟨p, u, e1, e2, e3⟩ := ih (i := i) (o := o) (by simpa using e)
      exact ⟨p, u, by simpa using e1, List.mem_cons_of_mem _ e2, e3⟩
theorem ArR.inj {vs : List V} {as : List Ar} {ps : List Addr} (h : ArR K G H vs as ps) : ∀ {i j : Nat} {o o' : OD} {p : Addr}, as[i]? = some (.ow o) → as[j]? = some (.ow o') → vs[i]? = some (.ref p) → vs[j]? = some (.ref p) → i = j := by
  induction h with
  | nil => intro i j o o' p e; simp at e
  | im r _ ih =>
    intro i j o o' p e1 e2 e3 e4
    cases i with
    | zero => simp at e1
    | succ i =>
      cases j with
      | zero => simp at e2
      | succ j => rw [ih (i := i) (j := j) (by simpa using e1) (by simpa using e2) (by simpa using e3) (by simpa using e4)]
  | @ow p0 _ _ _ _ _ h1 h2 h3 h4 h5 hr ih =>
    intro i j o o' p e1 e2 e3 e4
    cases i with
    | zero =>
      cases j with
      | zero => rfl
      | succ j =>
        obtain ⟨q, u, k1, k2, _⟩ := hr.getOw (i := j) (o := o') (by simpa using e2)
        have a1 : p0 = p := by simpa using e3
        have a2 : q = p := by
          have : _ = some (V.ref p) := e4
          rw [List.getElem?_cons_succ, k1] at this
          simpa using this
        exact absurd (by rw [a1, ← a2]; exact k2) h5
    | succ i =>
      cases j with
      | zero =>
        obtain ⟨q, u, k1, k2, _⟩ := hr.getOw (i := i) (o := o) (by simpa using e1)
        have a1 : p0 = p := by simpa using e4
        have a2 : q = p := by
          have : _ = some (V.ref p) := e3
          rw [List.getElem?_cons_succ, k1] at this
          simpa using this
        exact absurd (by rw [a1, ← a2]; exact k2) h5
      | succ j => rw [ih (i := i) (j := j) (by simpa using e1) (by simpa using e2) (by simpa using e3) (by simpa using e4)]
def hideS (ps : List Addr) (H : Hp) : Hp := fun z => if z ∈ ps then none else H z
theorem hideS_in {ps : List Addr} {H : Hp} {p : Addr} (h : p ∈ ps) : hideS ps H p = none := if_pos h
theorem hideS_out {ps : List Addr} {H : Hp} {p : Addr} (h : p ∉ ps) : hideS ps H p = H p := if_neg h
theorem hideS_sub {ps : List Addr} {H : Hp} : Same (hideS ps H) H := fun z u h => by
  by_cases q : z ∈ ps
  · rw [hideS_in q] at h; cases h
  · rw [hideS_out q] at h
    exact h
def addrAt (vs : List V) (i : Nat) : Addr := match vs[i]? with
  | some (.ref p) => p
  | _ => 0
theorem addrAt_of {vs : List V} {i : Nat} {p : Addr} (h : vs[i]? = some (.ref p)) : addrAt vs i = p := by unfold addrAt; rw [h]
def moOf (as : List Ar) (vs : List V) (i : Nat) : Option Addr := match as[i]? with
  | some (.ow _) => some (addrAt vs i)
  | _ => none
theorem startO_im {as : List Ar} {n i : Nat} {d : D} (h : (as.map Ar.sl ++ List.replicate n Sl.un)[i]? = some (Sl.im d)) : as[i]? = some (.im d) := by
  by_cases q : i < as.length
  · rw [List.getElem?_append_left (by simpa using q), List.getElem?_map] at h
    cases e : as[i]? with
    | none => rw [e] at h; cases h
    | some a =>
      rw [e] at h
      cases a with
      | im d' => simp [Ar.sl] at h; rw [h]
      | ow o => simp [Ar.sl] at h
  · rw [List.getElem?_append_right (by simpa using q), List.getElem?_replicate] at h
    split at h <;> cases h
theorem startO_ow {as : List Ar} {n i : Nat} {o : OD} (h : (as.map Ar.sl ++ List.replicate n Sl.un)[i]? = some (Sl.ow o)) : as[i]? = some (.ow o) := by
  by_cases q : i < as.length
  · rw [List.getElem?_append_left (by simpa using q), List.getElem?_map] at h
    cases e : as[i]? with
    | none => rw [e] at h; cases h
    | some a =>
      rw [e] at h
      cases a with
      | im d' => simp [Ar.sl] at h
      | ow o => simp [Ar.sl] at h; rw [h]
  · rw [List.getElem?_append_right (by simpa using q), List.getElem?_replicate] at h
    split at h <;> cases h
theorem start_get {N : List Str} {vs : List V} {i : Nat} {v : V} (h : vs[i]? = some v) : (L2.start N vs)[i]? = some (some v) := by
  have hl : i < vs.length := (List.getElem?_eq_some_iff.mp h).1
  show (vs.map some ++ _)[i]? = _
  rw [List.getElem?_append_left (by simpa using hl), List.getElem?_map, h]
  rfl
theorem ok_startO (N : List Str) {vs : List V} {as : List Ar} {ps : List Addr} (s : Same G H) (r : ArR K G H vs as ps) (hl : as.length ≤ N.length) : Ok K ⟨hideS ps H, G, none, moOf as vs⟩ G H (start N vs) (startO N as) where
  g0 := Same.refl _
  fr := fun a h k => absurd h k
  gh := s
  bh := hideS_sub
  len := by
    have := r.length
    simp [L2.start, startO, this]
  im := fun i d h => by
    obtain ⟨v, h1, h2⟩ := r.getIm (startO_im h)
    exact ⟨v, start_get h1, h2⟩
  ow := by
    refine ⟨addrAt vs, fun i o h => ?_, fun i j o o' h h' e => ?_⟩
    · obtain ⟨p, u, k1, k2, k3, k4, k5, k6⟩ := r.getOw (startO_ow h)
      rw [addrAt_of k1]
      exact ⟨start_get k1, k6, hideS_in k2, u, k3, k4⟩
    · obtain ⟨p, u, k1, _⟩ := r.getOw (startO_ow h)
      obtain ⟨p', u', k1', _⟩ := r.getOw (startO_ow h')
      rw [addrAt_of k1, addrAt_of k1'] at e
      subst e
      exact r.inj (startO_ow h) (startO_ow h') k1 k1'
  mine := fun p dx C fs e => nomatch e
  marks := fun i p o e h k => by
    obtain ⟨q, u, k1, _⟩ := r.getOw (startO_ow h)
    have e' : moOf as vs i = some p := e
    unfold moOf at e'
    rw [startO_ow h, addrAt_of k1] at e'
    cases e'
    exact start_get k1
/-- the owned ones at the end, from place i on -/
def Fo : List Ar → Nat → List OD → List Sl → Prop
  | [], _, os, _ => os = []
  | .im _ :: as, i, os, ρ => Fo as (i + 1) os ρ
  | .ow _ :: as, i, os, ρ => ∃ o os', os = o :: os' ∧ ρ[i]? = some (Sl.ow o) ∧ o.mk = true ∧ Fo as (i + 1) os' ρ
def FinO (as : List Ar) (r : Res) (os : List OD) : Oc → Prop
  | .nx ρ => r = .ret .non ∧ Fo as 0 os ρ
  | .rt d ρ => r = .ret d ∧ Fo as 0 os ρ
  | .ex C fx ρ => r = .exc C fx ∧ Fo as 0 os ρ
  | _ => False
theorem fo_own {b : Bs} {G' H' : Hp} {σ : L2.St} {ρ : List Sl} (o : Ok K b G' H' σ ρ) : ∀ {vs : List V} {as : List Ar} {ps : List Addr} {i : Nat} {os : List OD}, ArR K G H vs as ps → (∀ j p x, as[j]? = some (.ow x) → vs[j]? = some (.ref p) → b.mo (i + j) = some p) → Fo as i os ρ → OwnL K G' H' ps os := by
  intro vs as ps i os r
  induction r generalizing i os with
  | nil => intro _ h; have h' : os = [] := h; subst h'; exact .nil
  | im _ _ ih =>
    intro hm h
    exact ih (i := i + 1) (fun j p x h1 h2 => by
      have := hm (j + 1) p x (by simpa using h1) (by simpa using h2)
      rwa [show i + (j + 1) = i + 1 + j by omega] at this) h
  | @ow p0 _ _ _ _ _ h1 h2 h3 h4 h5 hr ih =>
    intro hm h
    obtain ⟨o1, os', rfl, k1, k2, k3⟩ := h
    have e1 := hm 0 _ _ rfl rfl
    rw [Nat.add_zero] at e1
    have e2 := o.marks i _ o1 e1 k1 k2
    obtain ⟨a, u, m1, m2, m3, m4, m5, _⟩ := o.own k1
    rw [e2] at m1
    have ea : p0 = a := by simpa using m1
    subst ea
    refine .cons m4 m5 k2 m2 (ih (i := i + 1) (fun j p x h1 h2 => ?_) k3)
    have := hm (j + 1) p x (by simpa using h1) (by simpa using h2)
    rwa [show i + (j + 1) = i + 1 + j by omega] at this
end
section
variable {P : Program} {w : World} {K : Frag} {mg : Str → Option Value} {base : Heap} {x qual : Str} {st : Stmt} {f : Addr} {fd : FuncData} {N ps : List Str} {k : Nat}
/-- a def that changes some of its arguments -/
theorem fnO {R : List Ar → Res → List OD → Prop} (F : Fun K x qual st f fd) (S : FnScope N ps (defScope st)) (hlen : ∀ as r os, R as r os → as.length = ps.length)
    (hbody : ∀ (cdv : Value) (A : Around) (outer : List Env) (s : Shared) (H : Hp) (E : XK), Room k (A.deeper (PyProof.Rows.envOfC qual (defScope st) s.heap.objs.size f cdv)) →
      ∃ t, PSs (cx P w K mg base N qual st f cdv A outer s H E) (defBody st) t ∧ ∀ as r os, R as r os → SV K (wE E) t (startO N as) (FinO as r os)) :
    FnOk P w K mg base (L2.CX P w) (k + 1) f fd ps (spO K R) := by
  have hpl : ps.length ≤ N.length := by
    have := congrArg List.length S.pre
    rw [List.length_take] at this
    omega
  refine F.okX S ?_ ?_
  · rintro vs H Q E ⟨G, as, qs, os, r, s, rr, hR, _⟩
    rw [rr.length]
    exact hlen as r os hR
  · rintro cdv A outer s H vs Q E hr ⟨G, as, qs, os, r, sm, rr, hR, hq⟩
    obtain ⟨t, ht, hv⟩ := hbody cdv A outer s H E hr
    have hl := hlen as r os hR
    have o0 := ok_startO N sm rr (by omega)
    have fin : ∀ {σ : L2.St} {ρ : List Sl} {G' H' : Hp}, Ok K ⟨hideS qs H, G, none, moOf as vs⟩ G' H' σ ρ → Fo as 0 os ρ → GrS qs G H G' H' ∧ OwnL K G' H' qs os := by
      intro σ ρ G' H' o' h0
      have hL := fo_own o' rr (fun j p x h1 h2 => by
        rw [Nat.zero_add]
        show moOf as vs j = some p
        unfold moOf
        rw [h1, addrAt_of h2]) h0
      refine ⟨⟨fun z u hz hu => o'.bh z u (by show hideS qs H z = some u; rw [hideS_out hz]; exact hu), o'.g0, fun a ha k => ?_, o'.gh⟩, hL⟩
      have h1 := o'.fr a ha k
      by_cases q : a ∈ qs
      · exfalso
        clear h1
        have : ∀ {qs : List Addr} {os : List OD}, OwnL K G' H' qs os → a ∈ qs → False := by
          intro qs os h
          induction h with
          | nil => intro z; cases z
          | cons _ _ _ h4 _ ih =>
            intro z
            rcases List.mem_cons.mp z with z | z
            · rw [z] at k; exact k h4
            · exact ih z
        exact this hL q
      · have h1' : hideS qs H a = none := h1
        rw [hideS_out q] at h1'
        exact h1'
    refine ⟨t, ht, hv as r os hR _ G H _ _ o0 fun o ho => ?_⟩
    cases o with
    | nx ρ =>
      obtain ⟨rfl, h0⟩ := ho
      intro σ G' H' o'
      obtain ⟨g1, g2⟩ := fin o' h0
      exact hq .non G' H' g1 g2 .non
    | rt d ρ =>
      obtain ⟨rfl, h0⟩ := ho
      intro v σ G' H' o' rv
      obtain ⟨g1, g2⟩ := fin o' h0
      exact hq v G' H' g1 g2 rv
    | ex C' fx ρ =>
      obtain ⟨rfl, h0⟩ := ho
      intro od σ G' H' o' e
      obtain ⟨g1, g2⟩ := fin o' h0
      exact hq od G' H' g1 g2 e
    | bk ρ => exact ho.elim
    | ct ρ => exact ho.elim
end
end DL

set_option maxRecDepth 100000
set_option maxHeartbeats 4000000
/-! The data layer, part o: calls of defs that change several of their arguments. -/
namespace DL
open PySem L2
/-- new contents of some slots -/
def setL (ρ : List Sl) : List Nat → List OD → List Sl
  | j :: js, o :: os => (setL ρ js os).set j (Sl.ow o)
  | _, _ => ρ
theorem setL_length (ρ : List Sl) : ∀ (js : List Nat) (os : List OD), (setL ρ js os).length = ρ.length
  | [], _ => by unfold setL; rfl
  | _ :: _, [] => by unfold setL; rfl
  | j :: js, o :: os => by unfold setL; rw [List.length_set]; exact setL_length ρ js os
/-- which arguments are owned, by which slots -/
inductive ArS (ρ : List Sl) : List Ar → List Nat → Prop
  | nil : ArS ρ [] []
  | im {d : D} {as : List Ar} {js : List Nat} : ArS ρ as js → ArS ρ (.im d :: as) js
  | ow {j : Nat} {o : OD} {as : List Ar} {js : List Nat} : ρ[j]? = some (Sl.ow o) → o.m.mk = true → j ∉ js → ArS ρ as js → ArS ρ (.ow o.m :: as) (j :: js)
inductive ArV (K : Frag) (G : Hp) (σ : L2.St) : List V → List Ar → List Nat → Prop
  | nil : ArV K G σ [] [] []
  | im {v : V} {d : D} {vs : List V} {as : List Ar} {js : List Nat} : Rep K G v d → ArV K G σ vs as js → ArV K G σ (v :: vs) (.im d :: as) js
  | ow {j : Nat} {v : V} {o : OD} {vs : List V} {as : List Ar} {js : List Nat} : σ[j]? = some (some v) → ArV K G σ vs as js → ArV K G σ (v :: vs) (.ow o :: as) (j :: js)
def AN (K : Frag) (t : TA) (ρ : List Sl) (as : List Ar) (js : List Nat) : Prop := ArS ρ as js ∧ ∀ (b : Bs) (G H : Hp) (σ : L2.St) (Q : List V → Hp → Prop), Ok K b G H σ ρ → (∀ vs G' H', Gr G H G' H' → ArV K G' σ vs as js → Q vs H') → t σ H Q
inductive Pj (σ : L2.St) : List Nat → List Addr → Prop
  | nil : Pj σ [] []
  | cons {j : Nat} {p : Addr} {js : List Nat} {ps : List Addr} : σ[j]? = some (some (.ref p)) → Pj σ js ps → Pj σ (j :: js) (p :: ps)
inductive Lk (ρ : List Sl) : List Nat → List OD → List OD → Prop
  | nil : Lk ρ [] [] []
  | cons {j : Nat} {o u x : OD} {js : List Nat} {us xs : List OD} : ρ[j]? = some (Sl.ow o) → o.like u = some x → Lk ρ js us xs → Lk ρ (j :: js) (u :: us) (x :: xs)
inductive Bk4 (K : Frag) (G' H' : Hp) (σ : L2.St) (ρ : List Sl) : List Nat → List Addr → List OD → Prop
  | nil : Bk4 K G' H' σ ρ [] [] []
  | cons {j : Nat} {p : Addr} {o x : OD} {h : HO} {js : List Nat} {ps : List Addr} {os : List OD} : σ[j]? = some (some (.ref p)) → ρ[j]? = some (Sl.ow o) → H' p = some h → OwnAt K G' h x → G' p = none → (x.mk = true → o.mk = true) → x.isI = false → j ∉ js →
      Bk4 K G' H' σ ρ js ps os → Bk4 K G' H' σ ρ (j :: js) (p :: ps) (x :: os)
section
variable {K : Frag} {ρ : List Sl} {b : Bs} {G H G' H' : Hp} {σ : L2.St}
theorem OwnAt.m {h : HO} {o : OD} (w : OwnAt K G h o) : OwnAt K G h o.m := by
  cases o with
  | lst ds => cases h with | lst vs => exact w | _ => exact w.elim
  | dct ds => cases h with | dK vs => exact w | _ => exact w.elim
  | mls ds => exact w
  | mdc ds => exact w
  | dtt ds => exact w
  | ins C ds => exact w
theorem like_own {h : HO} {o u x : OD} (l : o.like u = some x) (w : OwnAt K G h u) : OwnAt K G h x ∧ (x.mk = true → o.mk = true) ∧ x.isI = false := by
  cases o with
  | lst ds =>
    cases u with
    | mls es =>
      cases l
      cases h with
      | lst vs => exact ⟨w, (fun z => nomatch z), rfl⟩
      | _ => exact w.elim
    | _ => cases l
  | dct ds =>
    cases u with
    | mdc es =>
      cases l
      cases h with
      | dK vs => exact ⟨w, (fun z => nomatch z), rfl⟩
      | _ => exact w.elim
    | _ => cases l
  | mls ds => cases u with | mls es => cases l; exact ⟨w, fun _ => rfl, rfl⟩ | _ => cases l
  | mdc ds => cases u with | mdc es => cases l; exact ⟨w, fun _ => rfl, rfl⟩ | _ => cases l
  | _ => cases l
theorem pj_mem {js : List Nat} {ps : List Addr} (h : Pj σ js ps) {p : Addr} (hp : p ∈ ps) : ∃ j ∈ js, σ[j]? = some (some (.ref p)) := by
  induction h with
  | nil => cases hp
  | cons e _ ih =>
    rcases List.mem_cons.mp hp with rfl | hp
    · exact ⟨_, List.mem_cons_self, e⟩
    · obtain ⟨j, hj, e2⟩ := ih hp
      exact ⟨j, List.mem_cons_of_mem _ hj, e2⟩
theorem ars_mem {as : List Ar} {js : List Nat} (h : ArS ρ as js) {j : Nat} (hj : j ∈ js) : ∃ o, ρ[j]? = some (Sl.ow o) := by
  induction h with
  | nil => cases hj
  | im _ ih => exact ih hj
  | ow e _ _ _ ih =>
    rcases List.mem_cons.mp hj with rfl | hj
    · exact ⟨_, e⟩
    · exact ih hj
theorem arr_of (o : Ok K b G H σ ρ) {vs : List V} {as : List Ar} {js : List Nat} (hs : ArS ρ as js) (hv : ArV K G σ vs as js) : ∃ ps, ArR K G H vs as ps ∧ Pj σ js ps := by
  induction hs generalizing vs with
  | nil => cases hv; exact ⟨[], .nil, .nil⟩
  | im _ ih =>
    cases hv with
    | im r hv =>
      obtain ⟨ps, h1, h2⟩ := ih hv
      exact ⟨ps, .im r h1, h2⟩
  | @ow j x as js e hm hn hs ih =>
    cases hv with
    | ow hsv hv =>
      obtain ⟨ps, h1, h2⟩ := ih hv
      obtain ⟨ad, k1, k2⟩ := o.ow
      obtain ⟨m1, m2, m3, u, m4, m5⟩ := k1 j x e
      rw [m1] at hsv
      cases hsv
      refine ⟨ad j :: ps, .ow m4 m5.m hm m2 (fun hp => ?_) h1, .cons m1 h2⟩
      obtain ⟨j', hj', e'⟩ := pj_mem h2 hp
      obtain ⟨x', hx'⟩ := ars_mem hs hj'
      obtain ⟨m1', _⟩ := k1 j' x' hx'
      rw [m1'] at e'
      have ea : ad j' = ad j := by simpa using e'
      have := k2 j' j x' x hx' e ea
      exact hn (this ▸ hj')
theorem bk4_of {as : List Ar} {js : List Nat} {ps : List Addr} {us xs : List OD} (hs : ArS ρ as js) (hp : Pj σ js ps) (hL : OwnL K G' H' ps us) (hk : Lk ρ js us xs) : Bk4 K G' H' σ ρ js ps xs := by
  induction hs generalizing ps us xs with
  | nil => cases hp; cases hL; cases hk; exact .nil
  | im _ ih => exact ih hp hL hk
  | ow e hm hn hs ih =>
    cases hp with
    | cons e1 hp =>
      cases hL with
      | cons l1 l2 l3 l4 hL =>
        cases hk with
        | cons c1 c2 hk =>
          obtain ⟨a1, a2, a3⟩ := like_own c2 l2
          exact .cons e1 c1 l1 a1 l4 a2 a3 hn (ih hp hL hk)
theorem bk4_get {js : List Nat} {ps : List Addr} {os : List OD} (h : Bk4 K G' H' σ ρ js ps os) : ∀ {i : Nat}, (i ∈ js ∧ ∃ p u o x, p ∈ ps ∧ σ[i]? = some (some (.ref p)) ∧ ρ[i]? = some (Sl.ow o) ∧ (setL ρ js os)[i]? = some (Sl.ow x) ∧ H' p = some u ∧ OwnAt K G' u x ∧ G' p = none ∧ (x.mk = true → o.mk = true) ∧ x.isI = false) ∨ (i ∉ js ∧ (setL ρ js os)[i]? = ρ[i]?) := by
  induction h with
  | nil => intro i; exact .inr ⟨(fun z => by cases z), rfl⟩
  | @cons j p o x u js ps os h1 h2 h3 h4 h5 h6 h7 h8 h ih =>
    intro i
    have hl : j < ρ.length := (List.getElem?_eq_some_iff.mp h2).1
    by_cases q : i = j
    · subst q
      refine .inl ⟨List.mem_cons_self, p, u, o, x, List.mem_cons_self, h1, h2, ?_, h3, h4, h5, h6, h7⟩
      show ((setL ρ js os).set i (Sl.ow x))[i]? = _
      rw [List.getElem?_set_self (by rw [setL_length]; exact hl)]
    · have e : (setL ρ (j :: js) (x :: os))[i]? = (setL ρ js os)[i]? := by
        show ((setL ρ js os).set j (Sl.ow x))[i]? = _
        rw [List.getElem?_set_ne (fun z => q z.symm)]
      rcases ih (i := i) with ⟨k1, p', u', o', x', k2, k3⟩ | ⟨k1, k2⟩
      · exact .inl ⟨List.mem_cons_of_mem _ k1, p', u', o', x', List.mem_cons_of_mem _ k2, by rw [e]; exact k3⟩
      · refine .inr ⟨fun z => ?_, by rw [e]; exact k2⟩
        rcases List.mem_cons.mp z with z | z
        · exact q z
        · exact k1 z
theorem bk4_mem {js : List Nat} {ps : List Addr} {os : List OD} (h : Bk4 K G' H' σ ρ js ps os) {p : Addr} (hp : p ∈ ps) : ∃ j ∈ js, ∃ o, σ[j]? = some (some (.ref p)) ∧ ρ[j]? = some (Sl.ow o) := by
  induction h with
  | nil => cases hp
  | cons h1 h2 _ _ _ _ _ _ _ ih =>
    rcases List.mem_cons.mp hp with rfl | hp
    · exact ⟨_, List.mem_cons_self, _, h1, h2⟩
    · obtain ⟨j, hj, e⟩ := ih hp
      exact ⟨j, List.mem_cons_of_mem _ hj, e⟩
theorem Ok.setL (o : Ok K b G H σ ρ) {js : List Nat} {ps : List Addr} {os : List OD} (h : Bk4 K G' H' σ ρ js ps os) (g : GrS ps G H G' H') : Ok K b G' H' σ (setL ρ js os) := by
  obtain ⟨ad, k1, k2⟩ := o.ow
  -- the addresses of the others are none of these
  have out : ∀ i x, ρ[i]? = some (Sl.ow x) → i ∉ js → ad i ∉ ps := fun i x hx hi hp => by
    obtain ⟨j, hj, y, e1, e2⟩ := bk4_mem h hp
    obtain ⟨m1, _⟩ := k1 j y e2
    rw [m1] at e1
    have ea : ad j = ad i := by simpa using e1
    have := k2 j i y x e2 hx ea
    exact hi (this ▸ hj)
  have psB : ∀ p ∈ ps, b.B p = none := fun p hp => by
    obtain ⟨j, hj, y, e1, e2⟩ := bk4_mem h hp
    obtain ⟨m1, _, m3, _⟩ := k1 j y e2
    rw [m1] at e1
    have ea : ad j = p := by simpa using e1
    rw [← ea]
    exact m3
  have gn : ∀ i x, ρ[i]? = some (Sl.ow x) → i ∉ js → G' (ad i) = none := fun i x hx hi => by
    by_cases q : G' (ad i) = none
    · exact q
    · obtain ⟨_, m2, _, u, m4, _⟩ := k1 i x hx
      have := g.fr _ m2 q
      rw [m4] at this
      cases this
  refine { g0 := o.g0.trans g.gg, fr := fun a ha k => ?_, gh := g.gh, bh := fun z u hz => ?_, len := by rw [setL_length]; exact o.len, im := fun i d hd => ?_, ow := ⟨ad, fun i x hx => ?_, fun i j x y hx hy e => ?_⟩, mine := fun p dx C fs e hx => ?_, marks := fun i p x e hx hk => ?_ }
  · by_cases q : G a = none
    · exact o.bh.free (g.fr a q k)
    · exact o.fr a ha q
  · refine g.hh z u (fun hp => ?_) (o.bh z u hz)
    rw [psB z hp] at hz
    cases hz
  · rcases bk4_get h (i := i) with ⟨_, p, u, y, x, _, _, _, e, _⟩ | ⟨_, e⟩
    · rw [e] at hd; cases hd
    · rw [e] at hd
      obtain ⟨v, f1, f2⟩ := o.im i d hd
      exact ⟨v, f1, Rep.mono g.gg d f2⟩
  · rcases bk4_get h (i := i) with ⟨_, p, u, y, x', _, c1, c2, e, c3, c4, c5, _⟩ | ⟨hi, e⟩
    · rw [e] at hx
      cases hx
      obtain ⟨m1, _, m3, _⟩ := k1 i y c2
      rw [m1] at c1
      have ea : ad i = p := by simpa using c1
      rw [ea] at m1 m3 ⊢
      exact ⟨m1, c5, m3, u, c3, c4⟩
    · rw [e] at hx
      obtain ⟨m1, m2, m3, u, m4, m5⟩ := k1 i x hx
      exact ⟨m1, gn i x hx hi, m3, u, g.hh _ _ (out i x hx hi) m4, OwnAt.mono g.gg m5⟩
  · have was : ∀ i x, (DL.setL ρ js os)[i]? = some (Sl.ow x) → ∃ y, ρ[i]? = some (Sl.ow y) := fun i x hx => by
      rcases bk4_get h (i := i) with ⟨_, p, u, y, x', _, c1, c2, _⟩ | ⟨hi, e⟩
      · exact ⟨y, c2⟩
      · rw [e] at hx; exact ⟨x, hx⟩
    obtain ⟨x', hx'⟩ := was i x hx
    obtain ⟨y', hy'⟩ := was j y hy
    exact k2 i j x' y' hx' hy' e
  · rcases bk4_get h (i := 0) with ⟨_, p', u, y, x', _, c1, c2, e', c3, c4, c5, c6, c7⟩ | ⟨hi, e'⟩
    · rw [e'] at hx
      cases hx
      cases c7
    · rw [e'] at hx
      obtain ⟨f1, vs, f2⟩ := o.mine p dx C fs e hx
      obtain ⟨m1, _⟩ := k1 0 _ hx
      rw [f1] at m1
      have ea : p = ad 0 := by simpa using m1
      exact ⟨f1, vs, g.hh _ _ (by rw [ea]; exact out 0 _ hx hi) f2⟩
  · rcases bk4_get h (i := i) with ⟨_, p', u, y, x', _, c1, c2, e', c3, c4, c5, c6, c7⟩ | ⟨hi, e'⟩
    · rw [e'] at hx
      cases hx
      exact o.marks i p y e c2 (c6 hk)
    · rw [e'] at hx
      exact o.marks i p x e hx hk
theorem an_nil : AN K tNil ρ [] [] := ⟨.nil, fun b G H σ Q o q => q [] G H o.refl .nil⟩
theorem ArV.mono {G G' : Hp} (s : Same G G') {vs : List V} {as : List Ar} {js : List Nat} (h : ArV K G σ vs as js) : ArV K G' σ vs as js := by
  induction h with
  | nil => exact .nil
  | im r _ ih => exact .im (Rep.mono s _ r) ih
  | ow e _ ih => exact .ow e ih
theorem an_im {t : TE} {tr : TA} {x : Vd} {d : D} {as : List Ar} {js : List Nat} (h : EV K t ρ x) (s : Stb x d) (hr : AN K tr ρ as js) : AN K (tCons t tr) ρ (.im d :: as) js :=
  ⟨.im hr.1, fun b G H σ Q o q => h b G H σ _ o fun v G1 H1 g1 r1 => by
    obtain ⟨G2, g2, _, r2⟩ := r1.stb g1 s
    exact hr.2 b G2 H1 σ _ (o.gr g2) fun vs G3 H3 g3 r3 => q (v :: vs) G3 H3 (g2.trans g3) (.im (Rep.mono g3.gg _ r2) r3)⟩
theorem an_ow {j : Nat} {x : OD} {tr : TA} {as : List Ar} {js : List Nat} (h : ρ[j]? = some (Sl.ow x)) (hm : x.m.mk = true) (hn : j ∉ js) (hr : AN K tr ρ as js) : AN K (tCons (tVar j) tr) ρ (.ow x.m :: as) (j :: js) :=
  ⟨.ow h hm hn hr.1, fun b G H σ Q o q => by
    obtain ⟨a, u, h1, _⟩ := o.own h
    exact ⟨_, h1, hr.2 b G H σ _ o fun vs G3 H3 g3 r3 => q (_ :: vs) G3 H3 g3 (.ow h1 r3)⟩⟩
/-- a call that changes what slots own -/
theorem ee_callN {R : List Ar → Res → List OD → Prop} {E : L2.St → XK} {t : TA} {as : List Ar} {js : List Nat} {us xs : List OD} {d : D} (ha : AN K t ρ as js) (k : R as (.ret d) us) (hk : Lk ρ js us xs) : EE K (tCallS (spO K R) E t) ρ d (DL.setL ρ js xs) := fun b G H σ Q o q =>
  ha.2 b G H σ _ o fun vs G1 H1 g1 r1 => by
    have o1 := o.gr g1
    obtain ⟨ps, h1, h2⟩ := arr_of o1 ha.1 r1
    exact ⟨G1, as, ps, us, .ret d, g1.gh, h1, k, fun v G' H' g hL rv => q v G' H' (o1.setL (bk4_of ha.1 h2 hL hk) g) rv⟩
end
end DL

set_option maxRecDepth 100000
set_option maxHeartbeats 4000000
/-! The data layer, part p: dicts from ints to ints. -/
namespace DL
open PySem L2
theorem _root_.L2.Room.units1 {k : Nat} {A : Around} (r : L2.Room k A) : A.units + 1 < cLine := by have := r.un; omega
abbrev IM := List (Int × Int)
def getI (m : IM) (k : Int) : Option Int := (m.find? fun p => decide (p.1 = k)).map (·.2)
def putI (m : IM) (k v : Int) : IM := if (m.any fun p => decide (p.1 = k)) = true then m.map (fun p => if p.1 = k then (p.1, v) else p) else m ++ [(k, v)]
def dropI (m : IM) (k : Int) : IM := m.filter fun p => decide (p.1 ≠ k)
def dI (m : IM) : List (Key × D) := m.map fun p => ((Sum.inl p.1 : Key), D.int p.2)
def dID (m : IM) : D := .dct (m.map fun p => (Sum.inl p.1 : Key)) (m.map fun p => D.int p.2)
theorem dI_dat (m : IM) : D.dct ((dI m).map (·.1)) ((dI m).map (·.2)) = dID m := by
  unfold dI dID
  rw [List.map_map, List.map_map]
  rfl
theorem dID_zip (m : IM) : (m.map fun p => (Sum.inl p.1 : Key)).zip (m.map fun p => D.int p.2) = dI m := by
  unfold dI
  rw [List.zip_map']
theorem inl_eq {i j : Int} : decide ((Sum.inl i : Key) = Sum.inl j) = decide (i = j) := by
  rw [Bool.eq_iff_iff]
  simp
theorem valD_dI (k : Int) : ∀ m : IM, valD (dI m) (Sum.inl k) = (getI m k).map D.int
  | [] => rfl
  | p :: m => by
    have ih := valD_dI k m
    unfold valD dI getI at *
    by_cases q : p.1 = k
    · simp [q]
    · simp only [List.map_cons, List.find?_cons, inl_eq, q, decide_false] at ih ⊢
      exact ih
theorem any_dI (k : Int) (m : IM) : ((dI m).any fun kv => decide (kv.1 = Sum.inl k)) = m.any fun p => decide (p.1 = k) := by
  unfold dI
  rw [List.any_map]
  congr 1
  funext p
  exact inl_eq
theorem putKD_dI (m : IM) (k v : Int) : putKD (dI m) (Sum.inl k) (.int v) = dI (putI m k v) := by
  unfold putKD putI
  rw [any_dI]
  split
  · unfold dI
    rw [List.map_map, List.map_map]
    apply List.map_congr_left
    intro p _
    show (if (Sum.inl p.1 : Key) = Sum.inl k then ((Sum.inl p.1 : Key), D.int v) else (Sum.inl p.1, D.int p.2)) = ((Sum.inl (if p.1 = k then (p.1, v) else p).1 : Key), D.int (if p.1 = k then (p.1, v) else p).2)
    by_cases q : p.1 = k
    · rw [if_pos (by rw [q]), if_pos q]
    · rw [if_neg (fun z => q (by simpa using z)), if_neg q]
  · unfold dI
    rw [List.map_append]
    rfl
theorem dropKD_dI (m : IM) (k : Int) : dropKD (dI m) (Sum.inl k) = dI (dropI m k) := by
  unfold dropKD dropI dI
  rw [List.filter_map]
  congr 1
  apply List.filter_congr
  intro p _
  rw [Bool.eq_iff_iff]
  simp
theorem getI_nil (k : Int) : getI [] k = none := rfl
theorem getI_cons (p : Int × Int) (m : IM) (k : Int) : getI (p :: m) k = if p.1 = k then some p.2 else getI m k := by
  unfold getI
  by_cases q : p.1 = k <;> simp [q]
theorem getI_any (m : IM) (k : Int) : (m.any fun p => decide (p.1 = k)) = (getI m k).isSome := by
  induction m with
  | nil => rfl
  | cons p m ih =>
    rw [getI_cons, List.any_cons, ih]
    by_cases q : p.1 = k <;> simp [q]
theorem getI_snoc (m : IM) (k v j : Int) : getI (m ++ [(k, v)]) j = match getI m j with | some x => some x | none => if k = j then some v else none := by
  induction m with
  | nil => rw [List.nil_append, getI_cons, getI_nil]
  | cons p m ih =>
    rw [List.cons_append, getI_cons, getI_cons]
    by_cases q : p.1 = j
    · simp [q]
    · rw [if_neg q, if_neg q, ih]
theorem getI_mapPut (m : IM) (k v j : Int) : getI (m.map fun p => if p.1 = k then (p.1, v) else p) j = if j = k then (getI m k).map (fun _ => v) else getI m j := by
  induction m with
  | nil => simp [getI_nil]
  | cons p m ih =>
    rw [List.map_cons, getI_cons, getI_cons, getI_cons, ih]
    by_cases q : p.1 = k
    · simp only [q, if_true]
      by_cases r : k = j
      · subst r; simp
      · rw [if_neg r, if_neg (fun z => r z.symm), if_neg r, if_neg (fun z => r z.symm)]
    · simp only [q, if_false]
      by_cases r : p.1 = j
      · rw [if_pos r, if_pos r, if_neg (fun z => q (by rw [r, z]))]
      · rw [if_neg r, if_neg r]
theorem getI_put (m : IM) (k v j : Int) : getI (putI m k v) j = if j = k then some v else getI m j := by
  unfold putI
  rw [getI_any]
  by_cases h : (getI m k).isSome = true
  · rw [if_pos h, getI_mapPut]
    by_cases q : j = k
    · rw [if_pos q, if_pos q]
      obtain ⟨x, hx⟩ := Option.isSome_iff_exists.mp h
      rw [hx]; rfl
    · rw [if_neg q, if_neg q]
  · rw [if_neg h, getI_snoc]
    have hn : getI m k = none := by simpa using h
    by_cases q : j = k
    · subst q
      rw [hn, if_pos rfl]
    · rw [if_neg q, if_neg (fun z => q z.symm)]
      cases getI m j <;> rfl
theorem getI_drop (m : IM) (k j : Int) : getI (dropI m k) j = if j = k then none else getI m j := by
  induction m with
  | nil => unfold dropI; simp [getI_nil]
  | cons p m ih =>
    unfold dropI at *
    rw [List.filter_cons, getI_cons]
    by_cases q : p.1 = k
    · rw [if_neg (by simp [q]), ih]
      by_cases r : j = k
      · rw [if_pos r, if_pos r]
      · rw [if_neg r, if_neg r, if_neg (fun z => r (by rw [← z, q]))]
    · rw [if_pos (by simp [q]), getI_cons, ih]
      by_cases r : p.1 = j
      · rw [if_pos r, if_neg (fun z => q (by rw [r, z])), if_pos r]
      · rw [if_neg r, if_neg r]
def keysI (m : IM) : List Int := m.map (·.1)
theorem mem_keysI {m : IM} {k : Int} : k ∈ keysI m ↔ (getI m k).isSome = true := by
  induction m with
  | nil => simp [keysI, getI_nil]
  | cons p m ih =>
    unfold keysI at *
    rw [List.map_cons, List.mem_cons, ih, getI_cons]
    by_cases q : p.1 = k
    · simp [q]
    · rw [if_neg q]
      exact ⟨fun h => h.resolve_left (fun z => q z.symm), .inr⟩
theorem keysI_put {m : IM} {k v : Int} (h : (keysI m).Nodup) : (keysI (putI m k v)).Nodup := by
  unfold putI
  rw [getI_any]
  by_cases q : (getI m k).isSome = true
  · rw [if_pos q]
    have e : keysI (m.map fun p => if p.1 = k then (p.1, v) else p) = keysI m := by
      unfold keysI
      rw [List.map_map]
      apply List.map_congr_left
      intro p _
      show (if p.1 = k then (p.1, v) else p).1 = p.1
      split <;> rfl
    rw [e]
    exact h
  · rw [if_neg q]
    unfold keysI
    rw [List.map_append]
    refine List.nodup_append.mpr ⟨h, by simp, fun a ha b hb e => ?_⟩
    have hb' : b = k := by simpa using hb
    rw [e, hb'] at ha
    exact q (mem_keysI.mp ha)
theorem keysI_drop {m : IM} {k : Int} (h : (keysI m).Nodup) : (keysI (dropI m k)).Nodup := by
  unfold keysI dropI at *
  exact h.sublist (List.Sublist.map _ List.filter_sublist)
section
variable {K : Frag} {ρ : List Sl} {W : WX} {P : Oc → Prop}
/-- an owned object is let be -/
theorem sv_freezeO (i : Nat) {x : OD} {d : D} {t : TS} (h : ρ[i]? = some (Sl.ow x)) (hd : x.dat = some d) (k : SV K W t (ρ.set i (Sl.im d)) P) : SV K W t ρ P := fun b G H σ En o q => by
  obtain ⟨G', o'⟩ := o.freezeO h hd
  exact k b G' H σ En o' q
theorem ee_pop0 {i : Nat} {d : D} {ds : List D} (h : ρ[i]? = some (Sl.ow (.lst (d :: ds)))) : EE K (tBM K "list" rPopAt (tVar i) (tCons (tC (.int 0)) tNil)) ρ d (ρ.set i (Sl.ow (.lst ds))) :=
  ee_popAt (ds := d :: ds) (j := 0) (k := 0) ev_int h (by decide) (by decide) (by unfold seqIndex?; simp) rfl fun G vs r => by
    cases r with
    | cons a r => exact r
theorem ev_notNonI {ta : TE} {i : Int} (h : EV K ta ρ (.st (.int i))) : EV K (tOp (fun x y H Q => y = .non ∧ Q (.bl (!decide (x = .non))) H) ta (tC .non)) ρ (.st (.bl true)) := ev_op h ev_non (isnot_non (by intro z; cases z))
theorem ev_notNonN {ta : TE} (h : EV K ta ρ (.st .non)) : EV K (tOp (fun x y H Q => y = .non ∧ Q (.bl (!decide (x = .non))) H) ta (tC .non)) ρ (.st (.bl false)) := ev_op h ev_non (isnot_non (by intro z; cases z))
end
end DL

set_option maxRecDepth 100000
set_option maxHeartbeats 400000
/-! Matchings: what give, extend, covering compute, on dicts from ints to ints. -/
namespace DL
open PySem L2
abbrev Tb := List (List Int)
/-- the partners of a row -/
def lk (T : Tb) (a : Int) : List Int := if 0 ≤ a then T.getD a.toNat [] else []
def giveM (came : IM) : Nat → IM → IM → Option Int → Option (IM × IM)
  | _, own, held, none => some (own, held)
  | 0, _, _, some _ => none
  | n + 1, own, held, some c => match getI came c with
    | none => none
    | some here => giveM came n (putI own c here) (putI held here c) (getI held here)
/-- the one that held the thing loses it -/
def loseM (own held : IM) (c : Int) : Option IM := match getI own c with
  | none => some held
  | some a => if (getI held a).isSome = true then some (dropI held a) else none
def giveF (n : Nat) (own held came : IM) (c : Int) : Option (IM × IM) := match loseM own held c with
  | none => none
  | some held' => giveM came n own held' (some c)
def scanM (kept : List Int) (own : IM) (here : Int) : List Int → IM → List Int → (IM × List Int) ⊕ (IM × Int)
  | [], came, wt => .inl (came, wt)
  | c :: cs, came, wt => if (getI came c).isSome = true then scanM kept own here cs came wt
    else match getI own c with
      | none => .inr (putI came c here, c)
      | some a => if a ∈ kept then scanM kept own here cs (putI came c here) (wt ++ [a]) else .inr (putI came c here, c)
def bfsM (T : Tb) (kept : List Int) (own : IM) : Nat → IM → List Int → Option (Option (IM × Int))
  | _, _, [] => some none
  | 0, _, _ :: _ => none
  | n + 1, came, here :: wt => if 0 ≤ here ∧ here < (T.length : Int) then (match scanM kept own here (lk T here) came wt with
      | .inl (came', wt') => bfsM T kept own n came' wt'
      | .inr (came', c) => some (some (came', c))) else none
def extendM (n g : Nat) (T : Tb) (own held : IM) (start : Int) (kept : List Int) : Option (Bool × IM × IM) := match bfsM T kept own n [] [start] with
  | none => none
  | some none => some (false, own, held)
  | some (some (came, c)) => (giveF g own held came c).map fun p => (true, p)
def coverM (n g : Nat) (T : Tb) (kept : List Int) : List Int → IM → IM → Option (IM × IM)
  | [], own, held => some (own, held)
  | r :: rs, own, held => if own.length ≤ 1000000 ∧ held.length ≤ 1000000 then (match extendM n g T own held r kept with
    | none => none
    | some (_, own', held') => coverM n g T kept rs own' held') else none
/-- the table as data -/
def tbD (T : Tb) : D := .lst (T.map fun row => .lst (row.map D.int))
theorem lk_at {T : Tb} {a : Int} (h0 : 0 ≤ a) (h1 : a < (T.length : Int)) : atI (T.map fun row => D.lst (row.map D.int)) a = some (.lst ((lk T a).map D.int)) := by
  have := atI_map (fun row : List Int => D.lst (row.map D.int)) ([] : List Int) (n := a) (xs := T) h0 h1
  rw [this]
  unfold lk
  rw [if_pos h0]
theorem memD_ints (a : Int) (ks : List Int) : memD (.int a) (ks.map D.int) = decide (a ∈ ks) := (memD_map D.int eqD_int a ks).trans (by rw [Bool.eq_iff_iff])
theorem eqok_ints (ks : List Int) : eqOk (.lst (ks.map D.int)) = true := (Eds.lst (Eds.of fun d hd => by
  obtain ⟨i, _, rfl⟩ := List.mem_map.mp hd
  exact .int i)).ok (n := 2) (by decide)
theorem putI_len (m : IM) (k v : Int) : (putI m k v).length ≤ m.length + 1 := by
  unfold putI
  split
  · rw [List.length_map]; omega
  · rw [List.length_append]; simp
theorem dropI_len (m : IM) (k : Int) : (dropI m k).length ≤ m.length := List.length_filter_le _ _
theorem dI_len (m : IM) : (dI m).length = m.length := by unfold dI; rw [List.length_map]
theorem isS (m : IM) (k : Int) : (valD (dI m) (Sum.inl k)).isSome = (getI m k).isSome := by rw [valD_dI]; cases getI m k <;> rfl
theorem valD_some {m : IM} {k v : Int} (h : getI m k = some v) : valD (dI m) (Sum.inl k) = some (.int v) := by rw [valD_dI, h]; rfl
end DL

set_option maxRecDepth 100000
set_option maxHeartbeats 400000
/-! Matchings, the plain law: covering finds as many as there can be. -/
namespace DL
theorem nodup_sub_len {α : Type} [DecidableEq α] : ∀ {l l' : List α}, l.Nodup → (∀ x ∈ l, x ∈ l') → l.length ≤ l'.length
  | [], _, _, _ => Nat.zero_le _
  | x :: l, l', hn, hs => by
    obtain ⟨h1, h2⟩ := List.nodup_cons.mp hn
    have hx : x ∈ l' := hs x List.mem_cons_self
    have ih := nodup_sub_len (l := l) (l' := l'.erase x) h2 fun y hy => (List.mem_erase_of_ne (fun e => h1 (by rw [← e]; exact hy))).mpr (hs y (List.mem_cons_of_mem _ hy))
    rw [List.length_erase_of_mem hx] at ih
    have : 0 < l'.length := List.length_pos_of_mem hx
    simp only [List.length_cons]
    omega
theorem getI_mem {m : IM} (h : (keysI m).Nodup) {p : Int × Int} : p ∈ m ↔ getI m p.1 = some p.2 := by
  induction m with
  | nil => simp [getI_nil]
  | cons q m ih =>
    unfold keysI at h
    rw [List.map_cons, List.nodup_cons] at h
    rw [List.mem_cons, getI_cons, ih h.2]
    by_cases e : q.1 = p.1
    · rw [if_pos e]
      constructor
      · rintro (rfl | h1)
        · rfl
        · exfalso
          have : p.1 ∈ keysI m := mem_keysI.mpr (by rw [h1]; rfl)
          exact h.1 (by rw [e]; exact this)
      · intro h1
        refine .inl ?_
        cases p; cases q
        simp only [Option.some.injEq] at h1
        simp only at e
        rw [h1, e]
    · rw [if_neg e]
      exact ⟨fun h1 => h1.resolve_left (fun z => e (by rw [z])), .inr⟩
theorem putI_new {m : IM} {k v : Int} (h : getI m k = none) : putI m k v = m ++ [(k, v)] := by
  unfold putI
  rw [getI_any, h]
  rfl
def valid (T : Tb) (a : Int) : Prop := 0 ≤ a ∧ a < (T.length : Int)
theorem lk_valid {T : Tb} {a c : Int} (h : c ∈ lk T a) : valid T a := by
  unfold lk at h
  split at h
  · rename_i h0
    refine ⟨h0, ?_⟩
    by_cases q : a.toNat < T.length
    · omega
    · rw [List.getD_eq_getElem?_getD, List.getElem?_eq_none (by omega)] at h
      cases h
  · cases h
/-- a matching: who has which thing, and back -/
structure Mt (T : Tb) (own held : IM) : Prop where
  inv : ∀ c a, getI own c = some a ↔ getI held a = some c
  edge : ∀ c a, getI own c = some a → c ∈ lk T a
  nd : (keysI held).Nodup
  ndo : (keysI own).Nodup
/-- a lot of kept rows whose partners all belong to rows of it -/
def Closed (T : Tb) (kept : List Int) (own : IM) (A : Int → Prop) : Prop := ∀ a, A a → a ∈ kept ∧ ∀ c ∈ lk T a, ∃ a', A a' ∧ getI own c = some a'

/-! ### give -/
section
variable {T : Tb} {kept : List Int} {own held0 came : IM} {start : Int}
/-- what holds on the way back, thing c being moved -/
structure Way (T : Tb) (kept : List Int) (own held0 : IM) (L1 : IM) (c : Int) (own1 held1 : IM) : Prop where
  h1 : ∀ a c2, getI held1 a = some c2 → c2 ≠ c ∧ getI own1 c2 = some a
  h2 : ∀ c2 a, c2 ≠ c → getI own1 c2 = some a → getI held1 a = some c2
  h3 : ∀ c2, c2 ∈ keysI L1 → getI own1 c2 = getI own c2
  h4 : ∀ c2 a, c2 ≠ c → getI own1 c2 = some a → c2 ∈ lk T a
  h5 : ∀ a, (getI held1 a).isSome = (getI held0 a).isSome
  h6 : ∀ A, Closed T kept own A → (∀ c2 a, A a → (getI own1 c2 = some a ↔ getI own c2 = some a)) ∧ ∀ a, A a → getI own c ≠ some a
  h7 : ∀ c2, (getI own c2).isSome = true → c2 = c ∨ (getI own1 c2).isSome = true
  nd : (keysI held1).Nodup
  ndo : (keysI own1).Nodup
structure Given (T : Tb) (kept : List Int) (own held0 : IM) (start : Int) (own' held' : IM) : Prop where
  mt : Mt T own' held'
  dom : ∀ a, (getI held' a).isSome = true ↔ a = start ∨ (getI held0 a).isSome = true
  cl : ∀ A, Closed T kept own A → ∀ c2 a, A a → (getI own' c2 = some a ↔ getI own c2 = some a)
  cols : ∀ c2, (getI own c2).isSome = true → (getI own' c2).isSome = true
theorem give_ok (hs : getI held0 start = none) (hn : (keysI came).Nodup) (hl : ∀ c b, getI came c = some b → c ∈ lk T b)
    (hc : ∀ L1 c b L2, came = L1 ++ (c, b) :: L2 → b = start ∨ ∃ c', c' ∈ keysI L1 ∧ getI own c' = some b) :
    ∀ (m : Nat) (L1 : IM) (c b : Int) (L2 : IM) (own1 held1 : IM), L1.length + 2 ≤ m → came = L1 ++ (c, b) :: L2 → Way T kept own held0 L1 c own1 held1 → ∃ own' held', giveM came m own1 held1 (some c) = some (own', held') ∧ Given T kept own held0 start own' held' := by
  intro m
  induction m with
  | zero => intro L1 c b L2 own1 held1 hm; omega
  | succ m ih =>
    intro L1 c b L2 own1 held1 hm he W
    have hg : getI came c = some b := (getI_mem hn (p := (c, b))).mp (by rw [he]; exact List.mem_append_right _ List.mem_cons_self)
    have hlk := hl c b hg
    have hcL : c ∉ keysI L1 := fun z => by
      have hn' := hn
      rw [he] at hn'
      unfold keysI at hn' z
      rw [List.map_append, List.map_cons] at hn'
      exact (List.nodup_append.mp hn').2.2 c z c List.mem_cons_self rfl
    -- b is in no closed lot
    have hA : ∀ A, Closed T kept own A → ¬ A b := fun A cA z => by
      obtain ⟨a', h1, h2⟩ := (cA b z).2 c hlk
      exact (W.h6 A cA).2 a' h1 h2
    unfold giveM
    rw [hg]
    dsimp only
    rcases hc L1 c b L2 he with rfl | ⟨c', hc', hb⟩
    · have hnone : getI held1 b = none := by
        have := W.h5 b
        rw [hs] at this
        cases e : getI held1 b with
        | none => rfl
        | some x => rw [e] at this; cases this
      rw [hnone]
      have e0 : giveM came m (putI own1 c b) (putI held1 b c) none = some (putI own1 c b, putI held1 b c) := by cases m <;> rfl
      refine ⟨_, _, e0, ⟨⟨fun c2 a => ?_, fun c2 a h => ?_, keysI_put W.nd, keysI_put W.ndo⟩, fun a => ?_, fun A cA c2 a ha => ?_, fun c2 h => ?_⟩⟩
      · rw [getI_put, getI_put]
        by_cases q : c2 = c
        · subst q
          rw [if_pos rfl]
          by_cases r : a = b
          · subst r; rw [if_pos rfl]; simp
          · rw [if_neg r]
            exact ⟨fun h => absurd (Option.some.inj h).symm r, fun h => absurd rfl (W.h1 a c2 h).1⟩
        · rw [if_neg q]
          by_cases r : a = b
          · subst r
            rw [if_pos rfl]
            refine ⟨fun h => ?_, fun h => absurd (Option.some.inj h).symm q⟩
            have := W.h2 c2 a q h
            rw [hnone] at this
            cases this
          · rw [if_neg r]
            exact ⟨W.h2 c2 a q, fun h => (W.h1 a c2 h).2⟩
      · rw [getI_put] at h
        by_cases q : c2 = c
        · subst q
          rw [if_pos rfl] at h
          cases h
          exact hlk
        · rw [if_neg q] at h
          exact W.h4 c2 a q h
      · rw [getI_put]
        by_cases r : a = b
        · subst r; rw [if_pos rfl]; simp
        · rw [if_neg r, W.h5 a]
          simp [r]
      · rw [getI_put]
        by_cases q : c2 = c
        · subst q
          rw [if_pos rfl]
          refine ⟨fun h => ?_, fun h => absurd h ((W.h6 A cA).2 a ha)⟩
          cases h
          exact absurd ha (hA A cA)
        · rw [if_neg q]
          exact (W.h6 A cA).1 c2 a ha
      · rw [getI_put]
        by_cases q : c2 = c
        · rw [if_pos q]; rfl
        · rw [if_neg q]
          exact (W.h7 c2 h).resolve_left q
    · have hne : c' ≠ c := fun z => hcL (z ▸ hc')
      have ho1 : getI own1 c' = some b := by rw [W.h3 c' hc']; exact hb
      have hh1 : getI held1 b = some c' := W.h2 c' b hne ho1
      rw [hh1]
      obtain ⟨⟨k', b'⟩, hmem, hk'⟩ := List.mem_map.mp hc'
      dsimp only at hk'
      subst hk'
      obtain ⟨M1, M2, hM⟩ := List.append_of_mem hmem
      have he' : came = M1 ++ (k', b') :: (M2 ++ (c, b) :: L2) := by rw [he, hM]; simp
      refine ih M1 k' b' _ _ _ (by rw [hM] at hm; simp at hm; omega) he' ⟨fun a c2 h => ?_, fun c2 a q h => ?_, fun c2 h => ?_, fun c2 a q h => ?_, fun a => ?_, fun A cA => ⟨fun c2 a ha => ?_, fun a ha h => ?_⟩, fun c2 h => ?_, keysI_put W.nd, keysI_put W.ndo⟩
      · rw [getI_put] at h ⊢
        by_cases r : a = b
        · subst r
          rw [if_pos rfl] at h
          cases h
          exact ⟨fun z => hne z.symm, by rw [if_pos rfl]⟩
        · rw [if_neg r] at h
          obtain ⟨e1, e2⟩ := W.h1 a c2 h
          refine ⟨fun z => ?_, by rw [if_neg e1]; exact e2⟩
          rw [z, ho1] at e2
          exact r (Option.some.inj e2).symm
      · rw [getI_put] at h ⊢
        by_cases r : c2 = c
        · subst r
          rw [if_pos rfl] at h
          cases h
          rw [if_pos rfl]
        · rw [if_neg r] at h
          have e1 := W.h2 c2 a r h
          rw [if_neg (fun z => ?_)]
          · exact e1
          · rw [z, hh1] at e1
            exact q (Option.some.inj e1).symm
      · have hin : c2 ∈ keysI L1 := by
          rw [hM]
          unfold keysI at h ⊢
          rw [List.map_append]
          exact List.mem_append_left _ h
        rw [getI_put, if_neg (show ¬ c2 = c from fun z => hcL (z ▸ hin))]
        exact W.h3 c2 hin
      · rw [getI_put] at h
        by_cases r : c2 = c
        · subst r
          rw [if_pos rfl] at h
          cases h
          exact hlk
        · rw [if_neg r] at h
          exact W.h4 c2 a r h
      · rw [getI_put]
        by_cases r : a = b
        · subst r
          rw [if_pos rfl, ← W.h5 a, hh1]
          rfl
        · rw [if_neg r]
          exact W.h5 a
      · rw [getI_put]
        by_cases r : c2 = c
        · subst r
          rw [if_pos rfl]
          refine ⟨fun h => ?_, fun h => absurd h ((W.h6 A cA).2 a ha)⟩
          cases h
          exact absurd ha (hA A cA)
        · rw [if_neg r]
          exact (W.h6 A cA).1 c2 a ha
      · rw [hb] at h
        cases h
        exact hA A cA ha
      · rw [getI_put]
        by_cases r : c2 = c
        · rw [if_pos r]; exact .inr rfl
        · rw [if_neg r]
          exact .inr ((W.h7 c2 h).resolve_left r)
end
/-! ### the search -/
section
variable {T : Tb} {kept : List Int} {own held : IM} {start here : Int}
def Vis (own : IM) (start : Int) (came : IM) (a : Int) : Prop := a = start ∨ ∃ c, c ∈ keysI came ∧ getI own c = some a
/-- what holds of the things that were reached -/
structure Bf (T : Tb) (own : IM) (start : Int) (came : IM) : Prop where
  j1 : ∀ c b, getI came c = some b → c ∈ lk T b
  j5 : ∀ L1 c b L2, came = L1 ++ (c, b) :: L2 → b = start ∨ ∃ c', c' ∈ keysI L1 ∧ getI own c' = some b
  j6 : (keysI came).Nodup
structure Sc (T : Tb) (kept : List Int) (own : IM) (start here : Int) (came : IM) (wt : List Int) : Prop extends Bf T own start came where
  j2 : ∀ c, c ∈ keysI came → ∃ a, a ∈ kept ∧ getI own c = some a
  j3 : ∀ a, a ∈ wt → Vis own start came a
  j4 : ∀ a, Vis own start came a → a ∉ wt → a ≠ here → ∀ c ∈ lk T a, c ∈ keysI came
theorem keysI_snoc {m : IM} {k v : Int} {c : Int} : c ∈ keysI (m ++ [(k, v)]) ↔ c ∈ keysI m ∨ c = k := by
  unfold keysI
  rw [List.map_append, List.mem_append]
  simp
theorem bf_snoc {came : IM} {c : Int} (B : Bf T own start came) (hn : getI came c = none) (hc : c ∈ lk T here) (hv : Vis own start came here) : Bf T own start (came ++ [(c, here)]) := by
  refine ⟨fun c2 b h => ?_, fun L1 c2 b L2 he => ?_, ?_⟩
  · rw [getI_snoc] at h
    cases e : getI came c2 with
    | some x => rw [e] at h; cases h; exact B.j1 c2 b e
    | none =>
      rw [e] at h
      dsimp only at h
      split at h
      · rename_i q; subst q; cases h; exact hc
      · cases h
  · rcases List.eq_nil_or_concat L2 with rfl | ⟨M, z, rfl⟩
    · have h1 : came ++ [(c, here)] = L1 ++ [(c2, b)] := he
      obtain ⟨h2, h3⟩ := List.append_inj' h1 rfl
      cases h3
      subst h2
      rcases hv with h | ⟨c', h1, h2⟩
      · exact .inl h
      · exact .inr ⟨c', h1, h2⟩
    · rw [List.concat_eq_append] at he
      have h1 : came ++ [(c, here)] = (L1 ++ (c2, b) :: M) ++ [z] := by rw [he]; simp
      obtain ⟨h2, _⟩ := List.append_inj' h1 rfl
      exact B.j5 L1 c2 b M h2
  · unfold keysI
    rw [List.map_append]
    refine List.nodup_append.mpr ⟨B.j6, by simp, fun a ha b hb e => ?_⟩
    have hb' : b = c := by simpa using hb
    rw [e, hb'] at ha
    have := mem_keysI.mp ha
    rw [hn] at this
    cases this
theorem scan_ok : ∀ (cs : List Int) (came : IM) (wt : List Int), (∀ c ∈ cs, c ∈ lk T here) → Sc T kept own start here came wt → Vis own start came here →
    match scanM kept own here cs came wt with
    | .inl (came', wt') => Sc T kept own start here came' wt' ∧ (∀ c ∈ cs, c ∈ keysI came') ∧ (∀ c, c ∈ keysI came → c ∈ keysI came') ∧ came'.length + wt.length = came.length + wt'.length
    | .inr (came', c) => ∃ L, came' = L ++ [(c, here)] ∧ Bf T own start came' ∧ (∀ a, getI own c = some a → a ∉ kept) ∧ L.length ≤ came.length + cs.length ∧ ∀ c ∈ keysI L, ∃ a, a ∈ kept ∧ getI own c = some a
  | [], came, wt, _, S, _ => by
    unfold scanM
    exact ⟨S, fun c h => (by cases h), fun c h => h, rfl⟩
  | c :: cs, came, wt, hcs, S, hv => by
    unfold scanM
    have hc := hcs c List.mem_cons_self
    have hcs' : ∀ c ∈ cs, c ∈ lk T here := fun d hd => hcs d (List.mem_cons_of_mem _ hd)
    by_cases q : (getI came c).isSome = true
    · rw [if_pos q]
      have ih := scan_ok cs came wt hcs' S hv
      generalize scanM kept own here cs came wt = R at ih
      cases R with
      | inl p =>
        obtain ⟨came', wt'⟩ := p
        obtain ⟨h1, h2, h3, h4⟩ := ih
        refine ⟨h1, fun d hd => ?_, h3, h4⟩
        rcases List.mem_cons.mp hd with rfl | hd
        · exact h3 _ (mem_keysI.mpr q)
        · exact h2 d hd
      | inr p =>
        obtain ⟨came', c'⟩ := p
        obtain ⟨L, h1, h2, h3, h4, h5⟩ := ih
        exact ⟨L, h1, h2, h3, by rw [List.length_cons]; omega, h5⟩
    · rw [if_neg q]
      have hn : getI came c = none := by simpa using q
      rw [putI_new hn]
      have B := bf_snoc S.toBf hn hc hv
      cases ho : getI own c with
      | none =>
        dsimp only
        exact ⟨came, rfl, B, fun a h => (by rw [ho] at h; cases h), by omega, S.j2⟩
      | some a =>
        dsimp only
        by_cases r : a ∈ kept
        · rw [if_pos r]
          have vis : ∀ b, Vis own start (came ++ [(c, here)]) b ↔ Vis own start came b ∨ b = a := fun b => by
            constructor
            · rintro (h | ⟨c', h1, h2⟩)
              · exact .inl (.inl h)
              · rcases keysI_snoc.mp h1 with h1 | rfl
                · exact .inl (.inr ⟨c', h1, h2⟩)
                · rw [ho] at h2
                  exact .inr (Option.some.inj h2).symm
            · rintro (h | rfl)
              · rcases h with h | ⟨c', h1, h2⟩
                · exact .inl h
                · exact .inr ⟨c', keysI_snoc.mpr (.inl h1), h2⟩
              · exact .inr ⟨c, keysI_snoc.mpr (.inr rfl), ho⟩
          have S' : Sc T kept own start here (came ++ [(c, here)]) (wt ++ [a]) := by
            refine ⟨B, fun c2 h => ?_, fun b h => ?_, fun b h1 h2 h3 c2 h4 => ?_⟩
            · rcases keysI_snoc.mp h with h | rfl
              · exact S.j2 c2 h
              · exact ⟨a, r, ho⟩
            · rcases List.mem_append.mp h with h | h
              · exact (vis b).mpr (.inl (S.j3 b h))
              · exact (vis b).mpr (.inr (List.mem_singleton.mp h))
            · rcases (vis b).mp h1 with h1 | rfl
              · exact keysI_snoc.mpr (.inl (S.j4 b h1 (fun z => h2 (List.mem_append_left _ z)) h3 c2 h4))
              · exact absurd (List.mem_append_right _ List.mem_cons_self) h2
          have ih := scan_ok cs (came ++ [(c, here)]) (wt ++ [a]) hcs' S' ((vis here).mpr (.inl hv))
          generalize scanM kept own here cs (came ++ [(c, here)]) (wt ++ [a]) = R at ih
          cases R with
          | inl p =>
            obtain ⟨came', wt'⟩ := p
            obtain ⟨h1, h2, h3, h4⟩ := ih
            refine ⟨h1, fun d hd => ?_, fun d hd => h3 d (keysI_snoc.mpr (.inl hd)), ?_⟩
            · rcases List.mem_cons.mp hd with rfl | hd
              · exact h3 _ (keysI_snoc.mpr (.inr rfl))
              · exact h2 d hd
            · rw [List.length_append, List.length_append] at h4
              simp only [List.length_cons, List.length_nil] at h4
              omega
          | inr p =>
            obtain ⟨came', c'⟩ := p
            obtain ⟨L, h1, h2, h3, h4, h5⟩ := ih
            refine ⟨L, h1, h2, h3, ?_, h5⟩
            rw [List.length_append] at h4
            simp only [List.length_cons, List.length_nil] at h4 ⊢
            omega
        · rw [if_neg r]
          exact ⟨came, rfl, B, fun b h => by rw [ho] at h; cases h; exact r, by omega, S.j2⟩
/-- the search ends: it found a way, or all that was reached is closed -/
theorem bfs_ok (hk : ∀ a ∈ kept, valid T a) (hst : start ∈ kept) : ∀ (n : Nat) (came : IM) (wt : List Int), Bf T own start came → (∀ c, c ∈ keysI came → ∃ a, a ∈ kept ∧ getI own c = some a) → (∀ a, a ∈ wt → Vis own start came a) →
    (∀ a, Vis own start came a → a ∉ wt → ∀ c ∈ lk T a, c ∈ keysI came) → own.length + wt.length ≤ n + came.length →
    (bfsM T kept own n came wt = some none ∧ ∃ A, A start ∧ Closed T kept own A) ∨
    ∃ L c b, bfsM T kept own n came wt = some (some (L ++ [(c, b)], c)) ∧ Bf T own start (L ++ [(c, b)]) ∧ (∀ a, getI own c = some a → a ∉ kept) ∧ L.length ≤ own.length := by
  intro n
  have size : ∀ came : IM, (keysI came).Nodup → (∀ c, c ∈ keysI came → ∃ a, a ∈ kept ∧ getI own c = some a) → came.length ≤ own.length := fun came hn hc => by
    have := nodup_sub_len (l := keysI came) (l' := keysI own) hn fun c h => by
      obtain ⟨a, _, h2⟩ := hc c h
      exact mem_keysI.mpr (by rw [h2]; rfl)
    simpa [keysI] using this
  have vk : ∀ came : IM, (∀ c, c ∈ keysI came → ∃ a, a ∈ kept ∧ getI own c = some a) → ∀ a, Vis own start came a → a ∈ kept := fun came hc a hv => by
    rcases hv with rfl | ⟨c, h1, h2⟩
    · exact hst
    · obtain ⟨a', h3, h4⟩ := hc c h1
      rw [h2] at h4
      cases h4
      exact h3
  have fin : ∀ came : IM, (∀ c, c ∈ keysI came → ∃ a, a ∈ kept ∧ getI own c = some a) → (∀ a, Vis own start came a → ∀ c ∈ lk T a, c ∈ keysI came) → ∃ A, A start ∧ Closed T kept own A := fun came hc hl =>
    ⟨Vis own start came, .inl rfl, fun a ha => ⟨vk came hc a ha, fun c h => by
      obtain ⟨a', _, h2⟩ := hc c (hl a ha c h)
      exact ⟨a', .inr ⟨c, hl a ha c h, h2⟩, h2⟩⟩⟩
  induction n with
  | zero =>
    intro came wt B h2 h3 h4 hm
    have := size came B.j6 h2
    obtain rfl : wt = [] := List.eq_nil_of_length_eq_zero (by omega)
    exact .inl ⟨rfl, fin came h2 fun a ha => h4 a ha (by simp)⟩
  | succ n ih =>
    intro came wt B h2 h3 h4 hm
    cases wt with
    | nil => exact .inl ⟨rfl, fin came h2 fun a ha => h4 a ha (by simp)⟩
    | cons here wt =>
      have hv := h3 here List.mem_cons_self
      have hval := hk here (vk came h2 here hv)
      unfold bfsM
      rw [if_pos (show 0 ≤ here ∧ here < (T.length : Int) from hval)]
      have S : Sc T kept own start here came wt := ⟨B, h2, fun a h => h3 a (List.mem_cons_of_mem _ h), fun a h1 h5 h6 => h4 a h1 (fun z => (List.mem_cons.mp z).elim h6 h5)⟩
      have hsc := scan_ok (lk T here) came wt (fun c h => h) S hv
      generalize scanM kept own here (lk T here) came wt = R at hsc
      cases R with
      | inl p =>
        obtain ⟨came', wt'⟩ := p
        obtain ⟨S', k2, k3, k4⟩ := hsc
        dsimp only
        refine ih came' wt' S'.toBf S'.j2 S'.j3 (fun a h1 h5 c hc => ?_) (by rw [List.length_cons] at hm; omega)
        by_cases q : a = here
        · subst q
          exact k2 c hc
        · exact S'.j4 a h1 h5 q c hc
      | inr p =>
        obtain ⟨came', c⟩ := p
        obtain ⟨L, rfl, k2, k3, k4, k5⟩ := hsc
        dsimp only
        refine .inr ⟨L, c, here, rfl, k2, k3, size L ?_ k5⟩
        have := k2.j6
        unfold keysI at this ⊢
        rw [List.map_append] at this
        exact (List.nodup_append.mp this).1
/-- extend finds the start a partner, or a closed lot -/
theorem extend_ok (M : Mt T own held) (hk : ∀ a ∈ kept, valid T a) (hst : start ∈ kept) (hs : getI held start = none) {n g : Nat} (hn : own.length + 1 ≤ n) (hg : own.length + 2 ≤ g) :
    (extendM n g T own held start kept = some (false, own, held) ∧ ∃ A, A start ∧ Closed T kept own A) ∨
    ∃ own' held', extendM n g T own held start kept = some (true, own', held') ∧ Mt T own' held' ∧ (∀ a, (getI held' a).isSome = true → a = start ∨ (getI held a).isSome = true) ∧ (∀ a ∈ kept, a = start ∨ (getI held a).isSome = true → (getI held' a).isSome = true) ∧
      (∀ A, Closed T kept own A → Closed T kept own' A) ∧ ∀ c, (getI own c).isSome = true → (getI own' c).isSome = true := by
  have hb := bfs_ok (T := T) (kept := kept) (own := own) (start := start) hk hst n [] [start] ⟨(fun c b h => by cases h), (fun L1 c b L2 h => by simp at h), List.nodup_nil⟩ (fun c h => by cases h) (fun a h => .inl (List.mem_singleton.mp h))
    (fun a h1 h2 => by
      rcases h1 with rfl | ⟨c, h, _⟩
      · exact absurd List.mem_cons_self h2
      · cases h) (by simpa using hn)
  unfold extendM
  rcases hb with ⟨h1, h2⟩ | ⟨L, c, b, h1, B, hnk, hL⟩
  · rw [h1]
    exact .inl ⟨rfl, h2⟩
  · rw [h1]
    right
    dsimp only
    -- the one that loses the thing
    have lose : ∃ held0, loseM own held c = some held0 ∧ (∀ a c2, getI held0 a = some c2 ↔ getI held a = some c2 ∧ c2 ≠ c) ∧ (keysI held0).Nodup ∧ (∀ a ∈ kept, (getI held0 a).isSome = (getI held a).isSome) := by
      unfold loseM
      cases ho : getI own c with
      | none =>
        refine ⟨held, rfl, fun a c2 => ⟨fun h => ⟨h, fun z => ?_⟩, fun h => h.1⟩, M.nd, fun _ _ => rfl⟩
        rw [z] at h
        rw [(M.inv c a).mpr h] at ho
        cases ho
      | some a0 =>
        have ha0 := (M.inv c a0).mp ho
        dsimp only
        rw [if_pos (by rw [ha0]; rfl)]
        refine ⟨_, rfl, fun a c2 => ?_, keysI_drop M.nd, fun a ha => ?_⟩
        · rw [getI_drop]
          by_cases r : a = a0
          · subst r
            rw [if_pos rfl]
            refine ⟨(fun h => by cases h), fun h => ?_⟩
            rw [ha0] at h
            exact absurd (Option.some.inj h.1).symm h.2
          · rw [if_neg r]
            refine ⟨fun h => ⟨h, fun z => ?_⟩, fun h => h.1⟩
            rw [z] at h
            have := (M.inv c a).mpr h
            rw [ho] at this
            exact r (Option.some.inj this).symm
        · rw [getI_drop, if_neg (show ¬ a = a0 from fun z => hnk a0 ho (z ▸ ha))]
    obtain ⟨held0, e1, e2, e3, e4⟩ := lose
    have hs0 : getI held0 start = none := by
      cases e : getI held0 start with
      | none => rfl
      | some x => rw [((e2 start x).mp e).1] at hs; cases hs
    have W : Way T kept own held0 L c own held0 := ⟨fun a c2 h => ⟨((e2 a c2).mp h).2, (M.inv c2 a).mpr ((e2 a c2).mp h).1⟩, fun c2 a q h => (e2 a c2).mpr ⟨(M.inv c2 a).mp h, q⟩, fun c2 _ => rfl, fun c2 a _ h => M.edge c2 a h, fun a => rfl,
      fun A cA => ⟨fun c2 a _ => Iff.rfl, fun a ha h => hnk a h (cA a ha).1⟩, fun c2 h => .inr h, e3, M.ndo⟩
    obtain ⟨own', held', h2, G⟩ := give_ok (kept := kept) hs0 B.j6 B.j1 B.j5 g L c b [] own held0 (by omega) rfl W
    refine ⟨own', held', ?_, G.mt, fun a h => ?_, fun a ha h => ?_, fun A cA a ha => ⟨(cA a ha).1, fun c2 hc2 => ?_⟩, G.cols⟩
    · unfold giveF
      rw [e1]
      dsimp only
      rw [h2]
      rfl
    · rcases (G.dom a).mp h with h | h
      · exact .inl h
      · obtain ⟨x, hx⟩ := Option.isSome_iff_exists.mp h
        exact .inr (by rw [((e2 a x).mp hx).1]; rfl)
    · rw [G.dom a]
      rcases h with h | h
      · exact .inl h
      · exact .inr (by rw [e4 a ha]; exact h)
    · obtain ⟨a', k1, k2⟩ := (cA a ha).2 c2 hc2
      exact ⟨a', k1, (G.cl A cA c2 a' k1).mpr k2⟩
end
/-! ### covering -/
/-- a matching of some rows, as a list of pairs -/
structure IsMat (T : Tb) (rows : List Int) (M : List (Int × Int)) : Prop where
  mem : ∀ p ∈ M, p.1 ∈ rows ∧ p.2 ∈ lk T p.1
  nr : (M.map (·.1)).Nodup
  nc : (M.map (·.2)).Nodup
theorem cover_ok {T : Tb} {rows : List Int} (hv : ∀ a ∈ rows, valid T a) (hn : rows.Nodup) (hl : rows.length ≤ 1000) {n g : Nat} (hng : 1001 ≤ n) (hg : 1002 ≤ g) : ∀ (rs : List Int) (own held : IM), (∀ a ∈ rs, a ∈ rows) → rs.Nodup → Mt T own held → (∀ a, (getI held a).isSome = true → a ∈ rows ∧ a ∉ rs) →
    (∀ a ∈ rows, a ∉ rs → (getI held a).isSome = true ∨ ∃ A, A a ∧ Closed T rows own A) →
    ∃ own' held', coverM n g T rows rs own held = some (own', held') ∧ Mt T own' held' ∧ (∀ a, (getI held' a).isSome = true → a ∈ rows) ∧ ∀ a ∈ rows, (getI held' a).isSome = true ∨ ∃ A, A a ∧ Closed T rows own' A
  | [], own, held, _, _, M, hd, hc => ⟨own, held, rfl, M, fun a h => (hd a h).1, fun a ha => hc a ha (by simp)⟩
  | r :: rs, own, held, hs, hnr, M, hd, hc => by
    obtain ⟨n1, n2⟩ := List.nodup_cons.mp hnr
    have hr := hs r List.mem_cons_self
    have hsr : getI held r = none := by
      cases e : getI held r with
      | none => rfl
      | some x => exact absurd List.mem_cons_self (hd r (by rw [e]; rfl)).2
    have hhl : held.length ≤ 1000 := by
      have := nodup_sub_len (l := keysI held) (l' := rows) M.nd fun a h => (hd a (mem_keysI.mp h)).1
      have e : (keysI held).length = held.length := by unfold keysI; rw [List.length_map]
      omega
    have hol : own.length ≤ 1000 := by
      have hnd : (own.map (·.2)).Nodup := by
        have : ∀ m : IM, (∀ p ∈ m, getI held p.2 = some p.1) → (keysI m).Nodup → (m.map (·.2)).Nodup := by
          intro m
          induction m with
          | nil => intro _ _; exact List.nodup_nil
          | cons q m ih =>
            intro h1 h2
            unfold keysI at h2
            rw [List.map_cons, List.nodup_cons] at h2
            rw [List.map_cons, List.nodup_cons]
            refine ⟨fun z => ?_, ih (fun p hp => h1 p (List.mem_cons_of_mem _ hp)) h2.2⟩
            obtain ⟨p, hp, e⟩ := List.mem_map.mp z
            have a1 := h1 p (List.mem_cons_of_mem _ hp)
            have a2 := h1 q List.mem_cons_self
            rw [e, a2] at a1
            exact h2.1 (List.mem_map.mpr ⟨p, hp, (Option.some.inj a1).symm⟩)
        exact this own (fun p hp => (M.inv p.1 p.2).mp ((getI_mem M.ndo).mp hp)) M.ndo
      have := nodup_sub_len (l := own.map (·.2)) (l' := rows) hnd fun a h => by
        obtain ⟨p, hp, rfl⟩ := List.mem_map.mp h
        exact (hd p.2 (by rw [(M.inv p.1 p.2).mp ((getI_mem M.ndo).mp hp)]; rfl)).1
      rw [List.length_map] at this
      omega
    unfold coverM
    rw [if_pos ⟨by omega, by omega⟩]
    rcases extend_ok (n := n) (g := g) M hv hr hsr (by omega) (by omega) with ⟨h1, A, hA, cA⟩ | ⟨own', held', h1, M', d1, d2, d3, _⟩
    · rw [h1]
      refine cover_ok hv hn hl hng hg rs own held (fun a h => hs a (List.mem_cons_of_mem _ h)) n2 M (fun a h => ⟨(hd a h).1, fun z => (hd a h).2 (List.mem_cons_of_mem _ z)⟩) fun a ha h => ?_
      by_cases q : a = r
      · subst q
        exact .inr ⟨A, hA, cA⟩
      · exact hc a ha (fun z => (List.mem_cons.mp z).elim q h)
    · rw [h1]
      refine cover_ok hv hn hl hng hg rs own' held' (fun a h => hs a (List.mem_cons_of_mem _ h)) n2 M' (fun a h => ?_) fun a ha h => ?_
      · rcases d1 a h with rfl | h
        · exact ⟨hr, n1⟩
        · exact ⟨(hd a h).1, fun z => (hd a h).2 (List.mem_cons_of_mem _ z)⟩
      · by_cases q : a = r
        · exact .inl (d2 a ha (.inl q))
        · rcases hc a ha (fun z => (List.mem_cons.mp z).elim q h) with k | ⟨A, k1, k2⟩
          · exact .inl (d2 a ha (.inr k))
          · exact .inr ⟨A, k1, d3 A k2⟩
/-- no matching has more rows -/
theorem mat_le {T : Tb} {rows : List Int} {own held : IM} (M : Mt T own held) (hc : ∀ a ∈ rows, (getI held a).isSome = true ∨ ∃ A, A a ∧ Closed T rows own A) {N : List (Int × Int)} (hN : IsMat T rows N) : N.length ≤ held.length := by
  classical
  let S : Int → Prop := fun a => ∃ A, A a ∧ Closed T rows own A
  have hS : ∀ a, S a → ∀ c ∈ lk T a, ∃ a', S a' ∧ getI own c = some a' := fun a ⟨A, h1, h2⟩ c hcc => by
    obtain ⟨a', k1, k2⟩ := (h2 a h1).2 c hcc
    exact ⟨a', ⟨A, k1, h2⟩, k2⟩
  let φ : Int × Int → Int := fun p => if S p.1 then (getI own p.2).getD 0 else p.1
  have hφ : ∀ p ∈ N, φ p ∈ keysI held ∧ (S p.1 → S (φ p) ∧ getI own p.2 = some (φ p)) ∧ (¬ S p.1 → φ p = p.1) := fun p hp => by
    obtain ⟨h1, h2⟩ := hN.mem p hp
    by_cases q : S p.1
    · obtain ⟨a', k1, k2⟩ := hS p.1 q p.2 h2
      have e : φ p = a' := by
        show (if S p.1 then (getI own p.2).getD 0 else p.1) = a'
        rw [if_pos q, k2]; rfl
      rw [e]
      exact ⟨mem_keysI.mpr (by rw [(M.inv p.2 a').mp k2]; rfl), fun _ => ⟨k1, k2⟩, fun z => absurd q z⟩
    · have e : φ p = p.1 := if_neg q
      rw [e]
      refine ⟨?_, fun z => absurd z q, fun _ => rfl⟩
      rcases hc p.1 h1 with k | k
      · exact mem_keysI.mpr k
      · exact absurd k q
  have hnd : (N.map φ).Nodup := by
    have : ∀ L : List (Int × Int), (∀ p ∈ L, p ∈ N) → (L.map (·.1)).Nodup → (L.map (·.2)).Nodup → (L.map φ).Nodup := by
      intro L
      induction L with
      | nil => intro _ _ _; exact List.nodup_nil
      | cons q L ih =>
        intro h1 h2 h3
        rw [List.map_cons, List.nodup_cons] at h2 h3 ⊢
        refine ⟨fun z => ?_, ih (fun p hp => h1 p (List.mem_cons_of_mem _ hp)) h2.2 h3.2⟩
        obtain ⟨p, hp, e⟩ := List.mem_map.mp z
        obtain ⟨_, a2, a3⟩ := hφ p (h1 p (List.mem_cons_of_mem _ hp))
        obtain ⟨_, b2, b3⟩ := hφ q (h1 q List.mem_cons_self)
        by_cases sp : S p.1
        · by_cases sq : S q.1
          · have c1 := (M.inv _ _).mp (a2 sp).2
            have c2 := (M.inv _ _).mp (b2 sq).2
            rw [e, c2] at c1
            exact h3.1 (List.mem_map.mpr ⟨p, hp, (Option.some.inj c1).symm⟩)
          · have c1 := (a2 sp).1
            rw [e, b3 sq] at c1
            exact sq c1
        · by_cases sq : S q.1
          · have c1 := (b2 sq).1
            rw [← e, a3 sp] at c1
            exact sp c1
          · rw [a3 sp, b3 sq] at e
            exact h2.1 (List.mem_map.mpr ⟨p, hp, e⟩)
    exact this N (fun p hp => hp) hN.nr hN.nc
  have := nodup_sub_len (l := N.map φ) (l' := keysI held) hnd fun a h => by
    obtain ⟨p, hp, rfl⟩ := List.mem_map.mp h
    exact (hφ p hp).1
  rw [List.length_map] at this
  unfold keysI at this
  rwa [List.length_map] at this
/-- the most rows of a lot that one matching has -/
def nu (T : Tb) (rows : List Int) : Nat := match coverM 2000 5000000 T rows rows [] [] with
  | none => 0
  | some p => p.2.length
theorem nu_ok {T : Tb} {rows : List Int} (hv : ∀ a ∈ rows, valid T a) (hn : rows.Nodup) (hl : rows.length ≤ 1000) : ∃ own held, coverM 2000 5000000 T rows rows [] [] = some (own, held) ∧ nu T rows = held.length ∧ Mt T own held ∧ (∀ a, (getI held a).isSome = true → a ∈ rows) ∧
    (∀ a ∈ rows, (getI held a).isSome = true ∨ ∃ A, A a ∧ Closed T rows own A) ∧ IsMat T rows held ∧ ∀ N, IsMat T rows N → N.length ≤ nu T rows := by
  obtain ⟨own, held, h1, M, h2, h3⟩ := cover_ok (T := T) hv hn hl (n := 2000) (g := 5000000) (by decide) (by decide) rows [] [] (fun a h => h) hn ⟨(fun c a => by simp [getI_nil]), (fun c a h => by cases h), List.nodup_nil, List.nodup_nil⟩ (fun a h => by cases h) (fun a ha h => absurd ha h)
  have e : nu T rows = held.length := by unfold nu; rw [h1]
  refine ⟨own, held, h1, e, M, h2, h3, ⟨fun p hp => ?_, M.nd, ?_⟩, fun N hN => by rw [e]; exact mat_le M h3 hN⟩
  · have hp' := (getI_mem M.nd).mp hp
    exact ⟨h2 p.1 (by rw [hp']; rfl), M.edge p.2 p.1 ((M.inv p.2 p.1).mpr hp')⟩
  · have : ∀ m : IM, (∀ p ∈ m, getI own p.2 = some p.1) → (keysI m).Nodup → (m.map (·.2)).Nodup := by
      intro m
      induction m with
      | nil => intro _ _; exact List.nodup_nil
      | cons q m ih =>
        intro h1 h2
        unfold keysI at h2
        rw [List.map_cons, List.nodup_cons] at h2
        rw [List.map_cons, List.nodup_cons]
        refine ⟨fun z => ?_, ih (fun p hp => h1 p (List.mem_cons_of_mem _ hp)) h2.2⟩
        obtain ⟨p, hp, e⟩ := List.mem_map.mp z
        have a1 := h1 p (List.mem_cons_of_mem _ hp)
        have a2 := h1 q List.mem_cons_self
        rw [e, a2] at a1
        exact h2.1 (List.mem_map.mpr ⟨p, hp, (Option.some.inj a1).symm⟩)
    exact this held (fun p hp => (M.inv p.2 p.1).mpr ((getI_mem M.nd).mp hp)) M.nd
/-- it is the greatest -/
theorem nu_eq {T : Tb} {rows : List Int} (hv : ∀ a ∈ rows, valid T a) (hn : rows.Nodup) (hl : rows.length ≤ 1000) {k : Nat} (h1 : ∃ N, IsMat T rows N ∧ N.length = k) (h2 : ∀ N, IsMat T rows N → N.length ≤ k) : nu T rows = k := by
  obtain ⟨own, held, _, e, _, _, _, hM, hle⟩ := nu_ok hv hn hl
  obtain ⟨N, hN, rfl⟩ := h1
  have a := hle N hN
  have b := h2 held hM
  omega
end DL

set_option maxRecDepth 100000
set_option maxHeartbeats 4000000
/-! The data layer, part s: repr in the law's own def (nothing is under way there). -/
namespace DL
open PySem L2
open PySem.Spec PyProof.Rows
def rRepr (K : Frag) : List V → Hp → VK → Prop := fun xs H Q => ∃ (a : Addr) (d : PyData), xs = [.ref a] ∧ Dp K H (.ref a) d ∧ d.showable = true ∧ d.hasDict = false ∧ d.depth ≤ 64 ∧ d.shown.length ≤ sizeLine ∧ Q (.str d.shown) H
theorem cr_repr {X : Cx} (hg : X.A.guards = some []) (hu : X.A.units + 65 < cLine) : CallR X (.builtin "repr") (rRepr X.K) := by
  intro pins s σ H xs us Q I rv q
  obtain ⟨a, d, rfl, hd, h1, h2, h3, h4, q⟩ := q
  obtain rfl := Vals.ref1 rv
  obtain ⟨as, r⟩ := Dp.reads I d (.ref a) (.ref a) hd rfl
  exact repr_of_reads' r h1 (fun z => by rw [h2] at z; cases z) hg (by omega) (fun b o e => e) (fun h' u tk hk => ⟨.str d.shown, H, I.kept (t' := tk) hk, ⟨_, rfl⟩, q⟩) h4
/-- as FnOk, where nothing is under way that shows a thing -/
structure FnOkG (P : Program) (w : World) (K : Frag) (mg : Str → Option Value) (base : Heap) (CX : CXT) (k : Nat) (f : Addr) (fd : FuncData) (ps : List Str) (sp : Sp) : Prop where
  many : ∀ vs H Q E, sp vs H Q E → vs.length = ps.length
  go : ∀ (B : Around) (envs : List Env) (sh : Shared) (H : Hp) (args : Args) (us : List Value) (vs : List V) (Q : VK) (E : XK), B.guards = some [] → Room k B → Env0 P w K mg base B envs sh H →
    BindsTo sh fd args (ps.zip us) → Vals vs us → sp vs H Q E → codeAny (model P w) B (.call (.ref f) args) (CR CX envs P w H sh Q E) sh
section
variable {P : Program} {w : World} {K : Frag} {mg : Str → Option Value} {base : Heap} {x qual : Str} {st : Stmt} {f : Addr} {fd : FuncData} {N ps : List Str} {k : Nat} {sp : Sp}
theorem okG (F : Fun K x qual st f fd) (S : FnScope N ps (defScope st)) (hm : ∀ vs H Q E, sp vs H Q E → vs.length = ps.length)
    (hb : ∀ (cdv : Value) (B : Around) (envs : List Env) (sh : Shared) (H : Hp) (vs : List V) (Q : VK) (E : XK), B.guards = some [] → Room k (B.deeper (envOfC qual (defScope st) sh.heap.objs.size f cdv)) → sp vs H Q E →
      ∃ t, PSs (cxOf (L2.CX P w) P w K mg base N qual (defScope st) f cdv B envs sh H E) (defBody st) t ∧ t { nx := fun _ H' => Q .non H', rt := Q } (start N vs) H) :
    FnOkG P w K mg base (L2.CX P w) (k + 1) f fd ps sp := by
  obtain ⟨oc, od, kV, doc, pm, an, cdv, ct, osl, rfl, lk, hcd⟩ := F.ex
  refine ⟨hm, fun B envs sh H args us vs Q E hB hr e0 hbi r hsp => ?_⟩
  have hkeep : ∀ b o, base.get? b = some o → sh.heap.get? b = some o := fun b o e => (e0.bs b o e).1
  have inK : K.In sh.heap := e0.mod.kin.keeps hkeep
  refine codeAny_call_function hr.depth (inK _ _ lk) rfl S.co S.gen rfl (PySem.W.codeRec_of inK hcd) (hbi _ _ _ _ ?_)
  refine wpAny_newFunctionEnv_cells S.kind (fun y hy => ?_) fun env he s1 z => ?_
  · obtain ⟨nm, v⟩ := y
    exact (S.par nm (List.of_mem_zip hy).1).elim .inl fun c => .inr ⟨c, PySem.W.cellsFrom_some _ _ _ (.inl c)⟩
  subst he
  refine ⟨(e0.mod.nolimit.keeps hkeep).keeps z.toInCall.keep, codeAny_func ?_⟩
  obtain ⟨t, h1, h2⟩ := hb cdv B envs sh H vs Q E hB (hr.deeper _) hsp
  have J : Inv (cxOf (L2.CX P w) P w K mg base N qual (defScope st) f cdv B envs sh H E) [] (L2.start N vs) H s1 := inv_start S hr.hd e0 (hm _ _ _ _ hsp) r z
  refine wpAny_mono (h1.run [] s1 _ H _ J h2) (fun out s' ho => ?_) fun e s' h => h
  cases out with
  | ret u =>
    obtain ⟨v, _, H', J', rv, q⟩ := ho
    exact ⟨v, H', J'.os, J'.bare, J'.base, J'.hok, rv, q⟩
  | next =>
    obtain ⟨_, H', J', q⟩ := ho
    exact ⟨V.non, H', J'.os, J'.bare, J'.base, J'.hok, rfl, q⟩
  | brk => obtain ⟨_, _, _, z⟩ := ho; exact z.elim
  | cont => obtain ⟨_, _, _, z⟩ := ho; exact z.elim
/-- a def that changes nothing, called where nothing is under way -/
theorem fnG {R : List D → Res → Prop} (F : Fun K x qual st f fd) (S : FnScope N ps (defScope st)) (hlen : ∀ ds r, R ds r → ds.length = ps.length)
    (hbody : ∀ (cdv : Value) (A : Around) (outer : List Env) (s : Shared) (H : Hp) (E : XK), A.guards = some [] → Room k (A.deeper (envOfC qual (defScope st) s.heap.objs.size f cdv)) →
      ∃ t, PSs (cx P w K mg base N qual st f cdv A outer s H E) (defBody st) t ∧ ∀ ds r, R ds r → SV K (wE E) t (start0 N ds) (FinF r)) :
    FnOkG P w K mg base (L2.CX P w) (k + 1) f fd ps (spF K R) := by
  have hpl : ps.length ≤ N.length := by
    have := congrArg List.length S.pre
    rw [List.length_take] at this
    omega
  refine okG F S ?_ ?_
  · rintro vs H Q E ⟨G, ds, r, s, rr, hR, _⟩
    rw [rr.length]
    exact hlen ds r hR
  · rintro cdv A outer s H vs Q E hA hr ⟨G, ds, r, sm, rr, hR, hq⟩
    obtain ⟨t, ht, hv⟩ := hbody cdv A outer s H E hA hr
    have hl := hlen ds r hR
    refine ⟨t, ht, hv ds r hR _ G H _ _ (ok_start N sm rr (by omega)) fun o ho => ?_⟩
    cases o with
    | nx ρ =>
      subst ho
      intro σ G' H' o'
      exact hq .non G' H' (gr_of rfl rfl o') .non
    | rt d ρ =>
      subst ho
      intro v σ G' H' o' rv
      exact hq v G' H' (gr_of rfl rfl o') rv
    | ex C fx ρ =>
      subst ho
      intro od σ G' H' o' e
      exact hq od G' H' (gr_of rfl rfl o') e
    | bk ρ => exact ho.elim
    | ct ρ => exact ho.elim
end
/-- the call of the law, from its promise -/
theorem callG {P : Program} {w : World} {K : Frag} {mg mb : Str → Option Value} {CX : CXT} {k : Nat} {fa a : Addr} {fd : FuncData} {x : Str} {sp : Sp} {sh : Shared} {us : List Value} {ns : List Int}
    (inK : K.In sh.heap) (gm : sh.heap.Ns mainGlobals mg) (gb : sh.heap.Ns builtinsNs mb) (gbb : ∀ x : Str, x ≠ "__name__" → mb x = bootBuiltins x) (nl : sh.heap.NoLimit) (ng : sh.gens = #[])
    (ga : sh.heap.get? a = some { cls := .type "list", data := .seq us.toArray }) (ia : IntsAre us ns) (hl : ns.length ≤ sizeLine) (room : Room k callerA)
    (F : ∀ base : Heap, K.In base → base.Ns mainGlobals mg → FnOkG P w K mg base CX k fa fd [x] sp) (bind : ∀ (s : Shared) (u : Value), BindsTo s fd ⟨[u], []⟩ [(x, u)])
    (prom : ∀ H : Hp, Only H → SqL K H a (ns.map V.int) → sp [.ref a] H (fun v _ => v = .bl true) fun _ _ _ => False)
    (noX : ∀ H e s', CX [] H sh (fun _ _ _ => False) e s' → False) :
    codeAny (model P w) callerA (.call (.ref fa) ⟨[.ref a], []⟩) (fun r s' => r = .ok (.ret (.bool true)) ∧ OldK sh.heap s'.heap ∧ s'.os = sh.os ∧ AllBare s'.gens) sh := by
  have go : ∀ H : Hp, Only H → SqL K H a (ns.map V.int) → HOk P w H sh.heap → (∀ b, H b ≠ none → b = a ∧ K.lookup b = none) →
      codeAny (model P w) callerA (.call (.ref fa) ⟨[.ref a], []⟩) (fun r s' => r = .ok (.ret (.bool true)) ∧ OldK sh.heap s'.heap ∧ s'.os = sh.os ∧ AllBare s'.gens) sh := by
    intro H only sq hok at1
    have keep : ∀ {b : Addr} {o : Obj}, sh.heap.get? b = some o → (b = a → H a = none) → (hidT sh.heap H).get? b = some o := fun {b o} e n => hidT_get e (by
      cases q : H b with
      | none => rfl
      | some u =>
        have e2 := (at1 b (by rw [q]; exact fun z => nomatch z)).1
        rw [e2] at q
        rw [n e2] at q
        cases q)
    have names : ∀ {b : Addr} {m : Str → Option Value}, sh.heap.Ns b m → (hidT sh.heap H).Ns b m := fun {b m} ⟨o, es, ep, e, d, r⟩ => ⟨o, es, ep, keep e (fun z => by
      rw [z, ga] at e
      cases e
      have d' : Data.seq us.toArray _ = Data.dict es ep := d
      cases d'), d, r⟩
    have inB : K.In (hidT sh.heap H) := fun b o e => keep (inK b o e) fun z => by
      cases q : H a with
      | none => rfl
      | some u =>
        have h2 := (at1 a (by rw [q]; exact fun z => nomatch z)).2
        rw [z, h2] at e
        cases e
    have lim : (hidT sh.heap H).NoLimit := by
      obtain ⟨mc, l1, l2⟩ := nl
      exact ⟨mc, names l1, l2⟩
    have env : Env0 P w K mg (hidT sh.heap H) callerA [] sh H := ⟨rfl, ⟨inB, names gm, ⟨mb, names gb, gbb⟩, lim⟩, fun b o e => of_hidT e, Nat.le_of_eq (hidT_size _ _), trivial, (fun b hb => by cases hb), hok, .of_eq ng⟩
    refine codeAny_mono ((F _ inB (names gm)).go callerA [] sh H ⟨[.ref a], []⟩ [.ref a] [.ref a] _ _ rfl room env (bind sh (.ref a)) (.cons rfl .nil) (prom H only sq)) fun r s' h => ?_
    cases r with
    | error e => exact (noX H e s' h).elim
    | ok out =>
      cases out with
      | ret u =>
        obtain ⟨v, H', os, bare, un, hok', rel, q⟩ := h
        have ev : v = .bl true := q
        subst ev
        obtain rfl : u = Value.bool true := rel
        refine ⟨rfl, OldK.of_keep fun b o e => ?_, os, bare⟩
        rcases only b with z | ⟨ob, ys, z⟩
        · exact un.keep b o e z (fun h => by cases h) (fun h => by cases h)
        · obtain ⟨k1, _⟩ := hok b _ z
          obtain ⟨k2, _⟩ := hok' b _ (un.frzs b ob _ z)
          rw [e] at k1
          cases k1
          exact k2
      | next => exact False.elim h
      | brk => exact False.elim h
      | cont => exact False.elim h
  have rel := vals_ints ia
  cases lk : K.lookup a with
  | some o =>
    have e := inK a o lk
    rw [ga] at e
    cases e
    refine go (fun _ => none) (fun _ => .inl rfl) (.inr ⟨_, us.toArray, _, lk, rfl, rfl, rfl, ?_, ?_⟩) (fun b u z => nomatch z) fun b z => absurd rfl z
    · rw [List.size_toArray, ia.length]
      exact hl
    · simpa using rel
  | none =>
    let Ha : Hp := fun b => if b = a then some (.frz { cls := .type "list", data := .seq us.toArray } (.lst (ns.map V.int))) else none
    have at0 : Ha a = some (.frz { cls := .type "list", data := .seq us.toArray } (.lst (ns.map V.int))) := if_pos rfl
    have off : ∀ {b : Addr}, b ≠ a → Ha b = none := fun h => if_neg h
    refine go Ha (fun b => ?_) (.inl (.inr ⟨_, at0⟩)) (fun b u z => ?_) (fun b z => ?_)
    · by_cases q : b = a
      · exact .inr ⟨_, _, by rw [q]; exact at0⟩
      · exact .inl (off q)
    · by_cases q : b = a
      · subst q
        rw [at0] at z
        cases z
        exact ⟨ga, by rw [List.length_map]; exact hl, us, _, rel, ga⟩
      · rw [off q] at z
        cases z
    · by_cases q : b = a
      · exact ⟨q, by rw [q]; exact lk⟩
      · exact absurd (off q) z
theorem walkG {l : PySem.W.OpenLaw} {n k : Nat} {q : Program} {loose : List Str} {XP : (Str → Option Value) → Heap → Prop} {YP : World → Heap → Prop} {d : DefRec} {K : Params → Frag} {sp : World → Sp} {x : Str}
    (hn : l.most = some n) (hn2 : n ≤ sizeLine) (hdf : d.params.defaults = []) (room : Room k callerA)
    (hY : ∀ (w : World) (h : Heap), YP w h → (K w.params).In h)
    (F : ∀ (w : World) (mg : Str → Option Value) (fa : Addr) (h : Heap), (K w.params).In h → h.Ns mainGlobals mg → mg d.name = some (.ref fa) →
      ∃ fd : FuncData, (∀ (s : Shared) (u : Value), BindsTo s fd ⟨[u], []⟩ [(x, u)]) ∧ ∀ base : Heap, (K w.params).In base → base.Ns mainGlobals mg → FnOkG l.prog w (K w.params) mg base (L2.CX l.prog w) k fa fd [x] (sp w))
    (prom : ∀ (w : World) (H : Hp) (a : Addr) (ns : List Int), ns.length ≤ n → Only H → SqL (K w.params) H a (ns.map V.int) → sp w [.ref a] H (fun v _ => v = .bl true) fun _ _ _ => False) :
    PySem.W.WalkO q loose XP YP l.row.toRowW d [] (fun f vs => PySem.call f vs) := by
  refine Att.attach_call hn hdf fun w s₀ s₁ mg mb fa o pm cd doc a vs ns G Y ho hd hcd hmg hobj hints hlen hg => ?_
  obtain ⟨fd, hb, hF⟩ := F w mg fa _ (hY w _ Y) G.T.g hmg
  exact callG (hY w _ Y) G.T.g G.T.b G.T.builtins G.T.nolimit hg hobj hints (Nat.le_trans hlen hn2) room hF hb (fun H hO hS => prom w H a ns hlen hO hS) fun H e s' z => by
    obtain ⟨_, _, _, _, _, _, _, _, _, _, _, _, z⟩ := z
    exact z.elim
end DL

set_option maxRecDepth 100000
set_option maxHeartbeats 4000000
/-! The data layer, part t: repr of data, reversed lists, tests in a row that change things. -/
namespace DL
open PySem L2
/-- may be shown by repr: n deep, m heavy -/
structure Rp (n m : Nat) (d : D) : Prop where
  ed : Ed n d
  sh : (py d).showable = true
  lf : (py d).leavesShort 13 = true
  wt : (py d).weight ≤ m
structure Rps (n m : Nat) (ds : List D) : Prop where
  ed : Eds n ds
  sh : PyData.showableAll (pys ds) = true
  lf : PyData.leavesShortAll 13 (pys ds) = true
  wt : PyData.weightAll (pys ds) ≤ m
theorem Rp.mono {n n' m m' : Nat} {d : D} (h : Rp n m d) (k : n ≤ n') (k' : m ≤ m') : Rp n' m' d := ⟨h.ed.mono k, h.sh, h.lf, Nat.le_trans h.wt k'⟩
theorem Rp.int {i : Int} (h : i.natAbs < 10 ^ 12) : Rp 1 1920 (.int i) := by
  have hl : i.natAbs.log2 < 1919 := by
    by_cases z : i.natAbs = 0
    · rw [z]; decide
    · have h2 : i.natAbs < 2 ^ 40 := Nat.lt_trans h (by decide)
      have := (Nat.log2_lt z).mpr h2
      omega
  refine ⟨.int i, ?_, ?_, ?_⟩
  · show decide (i.natAbs.log2 < 1920) = true
    exact decide_eq_true (by omega)
  · show decide ((PyData.shown (.int i)).length ≤ 13) = true
    exact decide_eq_true (PyData.shown_int_le h)
  · show (if (i == 0) = true then 0 else i.natAbs.log2 + 1) ≤ 1920
    split <;> omega
theorem Rp.str {s : Str} {m : Nat} (h : (PyData.str s).canLay0 = true) (h2 : (s.cps.toList.all fun c => decide (c < 16 ^ 8)) = true) (h3 : s.cps.size ≤ m) : Rp 1 m (.str s) := ⟨Ed.str h, rfl, h2, h3⟩
theorem Rps.nil {n : Nat} : Rps n 0 [] := ⟨.nil, rfl, rfl, Nat.le_refl _⟩
theorem Rps.cons {n m m' : Nat} {d : D} {ds : List D} (h : Rp n m d) (r : Rps n m' ds) : Rps n (m + 1 + m') (d :: ds) := ⟨.cons h.ed r.ed, by simp [pys, PyData.showableAll, h.sh, r.sh], by simp [pys, PyData.leavesShortAll, h.lf, r.lf], by
  show (py d).weight + 1 + PyData.weightAll (pys ds) ≤ _
  have := h.wt
  have := r.wt
  omega⟩
theorem Rps.of {n m : Nat} : ∀ {ds : List D}, (∀ d ∈ ds, Rp n m d) → Rps n (ds.length * (m + 1)) ds
  | [], _ => by rw [List.length_nil, Nat.zero_mul]; exact .nil
  | d :: ds, h => by
    have := Rps.cons (h d List.mem_cons_self) (Rps.of fun e he => h e (List.mem_cons_of_mem _ he))
    rw [List.length_cons, Nat.succ_mul, Nat.add_comm]
    exact this
theorem Rps.tup {n m : Nat} {ds : List D} (h : Rps n m ds) : Rp (n + 1) m (.tup ds) := ⟨h.ed.tup, by show PyData.showableAll (pys ds) = true; exact h.sh, by show PyData.leavesShortAll 13 (pys ds) = true; exact h.lf, by show PyData.weightAll (pys ds) ≤ m; exact h.wt⟩
theorem Rps.lst {n m : Nat} {ds : List D} (h : Rps n m ds) : Rp (n + 1) m (.lst ds) := ⟨h.ed.lst, by show PyData.showableAll (pys ds) = true; exact h.sh, by show PyData.leavesShortAll 13 (pys ds) = true; exact h.lf, by show PyData.weightAll (pys ds) ≤ m; exact h.wt⟩
section
variable {K : Frag} {ρ ρ' ρ'' : List Sl} {ta tb te : TE} {x : Vd} {d e : D} {W : WX} {P : Oc → Prop}
theorem repr_dat {n m : Nat} (hx : Rdd x d) (ht : (∃ ds, d = .lst ds) ∨ ∃ ds, d = .tup ds) (h : Rp n m d) (hn : n ≤ 64) (hm : m ≤ 2 ^ 20) : CbD K (rRepr K) [x] (.st (.str (py d).shown)) := fun H0 G H vs Q _ s a q => by
  obtain ⟨v, rfl, r⟩ := vrs1 a
  have rr := r.rdd s hx
  obtain ⟨p, rfl⟩ : ∃ p, v = V.ref p := by
    rcases ht with ⟨ds, rfl⟩ | ⟨ds, rfl⟩ <;> (cases rr; exact ⟨_, rfl⟩)
  exact ⟨p, py d, rfl, Rep.dp h.ed.f rr, h.sh, PyData.hasDict_of_canLay _ h.ed.c, Nat.le_trans h.ed.p hn, PyData.shown_fits (B := 13) (by decide) (by decide) h.lf (Nat.le_trans h.wt hm), q _ G H (Gr.refl s) (.str _)⟩
/-- xs[::-1] -/
theorem ev_revL {ds : List D} (h : EV K te ρ x) (l : Lsd x ds) : EV K (tRevL K te) ρ (.fr ds.reverse) := fun b G H σ Q o q => h b G H σ _ o fun v G1 H1 g1 r1 => by
  obtain ⟨a, vs, rfl, h1, h2⟩ := r1.lsd g1.gh l
  refine ⟨a, vs, rfl, h1, fun p hp => ?_⟩
  obtain ⟨g2, n2⟩ := Gr.newO g1.gh (.lst vs.reverse) hp
  refine q _ _ _ (g1.trans g2) ⟨p, _, rfl, g1.hh.free hp, n2, upd_same, ?_⟩
  have : ∀ {ds : List D} {vs : List V}, Reps K G1 vs ds → Reps K G1 vs.reverse ds.reverse := by
    intro ds
    induction ds with
    | nil => intro vs r; cases r; exact .nil
    | cons d ds ih =>
      intro vs r
      cases r with
      | cons a r =>
        rw [List.reverse_cons, List.reverse_cons]
        exact (ih r).snoc a
  exact this h2
theorem te_or {u v : TT} {c c' : Bool} (h : TE' K u ρ c ρ') (h' : c = false → TE' K v ρ' c' ρ'') (h2 : c = true → ρ' = ρ'' ∧ c' = true) : TE' K (tOr u v) ρ c' ρ'' := fun b G H σ Q o q => h b G H σ _ o fun G' H' o' => by
  cases c with
  | true =>
    obtain ⟨rfl, rfl⟩ := h2 rfl
    show Q true H'
    exact q G' H' o'
  | false =>
    show v σ H' Q
    exact h' rfl b G' H' σ Q o' q
theorem te_and {u v : TT} {c c' : Bool} (h : TE' K u ρ c ρ') (h' : c = true → TE' K v ρ' c' ρ'') (h2 : c = false → ρ' = ρ'' ∧ c' = false) : TE' K (tAnd u v) ρ c' ρ'' := fun b G H σ Q o q => h b G H σ _ o fun G' H' o' => by
  cases c with
  | false =>
    obtain ⟨rfl, rfl⟩ := h2 rfl
    show Q false H'
    exact q G' H' o'
  | true =>
    show v σ H' Q
    exact h' rfl b G' H' σ Q o' q
theorem te_of {u : TT} {c : Bool} (h : TV K u ρ c) : TE' K u ρ c ρ := fun b G H σ Q o q => h b G H σ _ o fun G' H' g => q G' H' (o.gr g)
theorem ee_andS (h : EE K ta ρ (.bl true) ρ') (h' : EE K tb ρ' d ρ'') : EE K (tAndV ta tb) ρ d ρ'' := fun b G H σ Q o q => h b G H σ _ o fun v G' H' o' r => ⟨true, rep_bl r, by
  show tb σ H' Q
  exact h' b G' H' σ Q o' q⟩
/-- both sides may change things -/
theorem ee_op2 {r : R2} (ha : EE K ta ρ d ρ') (hb : EE K tb ρ' e ρ'') {z : D} (h : OpD K r (.st d) (.st e) (.st z)) : EE K (tOp r ta tb) ρ z ρ'' := fun b G H σ Q o q =>
  ha b G H σ _ o fun v G1 H1 o1 r1 => hb _ G1 H1 σ _ o1.rebase fun w G2 H2 o2 r2 => h H2 G2 H2 v w Q (Same.refl _) o2.gh (Rep.mono o2.g0 _ r1) r2 fun z G3 H3 g3 r3 => q z G3 H3 ((o1.unbase o2).gr g3) r3
/-! arguments that change what slots own -/
def EA (K : Frag) (t : TA) (ρ : List Sl) (ds : List D) (ρ' : List Sl) : Prop := ∀ (b : Bs) (G H : Hp) (σ : L2.St) (Q : List V → Hp → Prop), Ok K b G H σ ρ → (∀ vs G' H', Ok K b G' H' σ ρ' → Reps K G' vs ds → Q vs H') → t σ H Q
theorem ea_nil : EA K tNil ρ [] ρ := fun b G H σ Q o q => q [] G H o .nil
theorem ea_cons {tr : TA} {ds : List D} (h : EE K ta ρ d ρ') (hr : EA K tr ρ' ds ρ'') : EA K (tCons ta tr) ρ (d :: ds) ρ'' := fun b G H σ Q o q => h b G H σ _ o fun v G1 H1 o1 r1 => hr _ G1 H1 σ _ o1.rebase fun vs G2 H2 o2 r2 => q (v :: vs) G2 H2 (o1.unbase o2) (.cons (Rep.mono o2.g0 _ r1) r2)
theorem ee_tupE {tr : TA} {ds : List D} (h : EA K tr ρ ds ρ') (hl : ds.length ≤ 1000) : EE K (tTup tr) ρ (.tup ds) ρ' := fun b G H σ Q o q => h b G H σ _ o fun vs G1 H1 o1 r1 => by
  have hl' := r1.length
  refine ⟨Nat.le_of_lt (small1000 (by omega)), fun p hp => ?_⟩
  obtain ⟨g3, s3⟩ := Gr.new o1.gh (.tup vs) hp
  exact q _ _ _ (o1.gr g3) (.tup (SqT.of upd_same) (Reps.mono s3 _ r1))
theorem ee_callFE {R : List D → Res → Prop} {E : L2.St → XK} {tr : TA} {ds : List D} (h : EA K tr ρ ds ρ') (k : R ds (.ret d)) : EE K (tCallS (spF K R) E tr) ρ d ρ' := fun b G H σ Q o q => h b G H σ _ o fun vs G1 H1 o1 r1 =>
  ⟨G1, ds, .ret d, o1.gh, r1, k, fun v G' H' g r => q v G' H' (o1.gr g) r⟩
theorem ee_callE {i : Nat} {C : Addr} {fs0 fs fs' : List (Str × D)} {R : List (Str × D) → List D → Res → List (Str × D) → Prop} {E : L2.St → XK} {tr : TA} {ds : List D} (h0 : ρ[i]? = some (Sl.ow (.ins C fs0))) (ha : EA K tr ρ ds ρ') (h : ρ'[i]? = some (Sl.ow (.ins C fs)))
    (k : R fs ds (.ret d) fs') : EE K (tCallS (spM K C R) E (tCons (tVar i) tr)) ρ d (ρ'.set i (Sl.ow (.ins C fs'))) := fun b G H σ Q o q => by
  obtain ⟨a, dx, vs, h1, _⟩ := o.own_ins h0
  refine ⟨_, h1, ha b G H σ _ o fun ws G1 H1 o1 r1 => ?_⟩
  obtain ⟨a', dx', vs', k1, k2, k3, k4, k5, k6⟩ := o1.own_ins h
  obtain rfl : a = a' := by rw [h1] at k1; simpa using k1
  exact ⟨a, dx', ws, vs', fs, fs', G1, ds, .ret d, rfl, k4, k2, o1.gh, k5, r1, k, fun v G' H' fvs g hp rf rv => q v G' H' (k6 G' H' _ _ g hp rf) rv⟩
theorem ee_propE {C : Addr} {fs : List (Str × D)} {R : List D → Res → Prop} {E : XK} (h : EE K ta ρ (.ins C fs) ρ') (k : R [.ins C fs] (.ret d)) : EE K (tProp C (spF K R) [] E ta) ρ d ρ' := fun b G H σ Q o q => h b G H σ _ o fun v G1 H1 o1 r1 => by
  obtain ⟨a, rfl⟩ : ∃ a, v = V.ref a := by cases r1; exact ⟨_, rfl⟩
  have r3 := r1
  cases r3 with
  | @ins _ _ dx vs _ h1 h2 =>
    exact ⟨a, dx, vs, rfl, o1.gh _ _ h1, G1, [.ins C fs], .ret d, o1.gh, .cons r1 .nil, k, fun v G' H' g r => q v G' H' (o1.gr g) r⟩
theorem reps_vrs {G H : Hp} : ∀ {ds : List D} {vs : List V}, Reps K G vs ds → VRs K H G H vs (ds.map Vd.st)
  | [], _, r => by cases r; exact .nil
  | d :: ds, _, r => by
    cases r with
    | cons a r => exact .cons a (reps_vrs r)
theorem ee_cbE {r : List V → Hp → VK → Prop} {tr : TA} {ds : List D} {z : Vd} (ha : EA K tr ρ ds ρ') (h : CbD K r (ds.map Vd.st) z) (s : Stb z d) : EE K (tCB r tr) ρ d ρ' := fun b G H σ Q o q => ha b G H σ _ o fun vs G1 H1 o1 r1 =>
  h H1 G1 H1 vs Q (Same.refl _) o1.gh (reps_vrs r1) fun w G2 H2 g2 r2 => by
    obtain ⟨G3, g3, _, r3⟩ := r2.stb g2 s
    exact q w G3 H2 (o1.gr g3) r3
end
end DL

set_option maxRecDepth 100000
set_option maxHeartbeats 4000000
namespace DL
open PySem L2
def top (i : Nat) : Stmt := PySem.Challenge.pw_starward_k62_all_changes_or_none.main.body.getD i (.Pass ⟨0, 0, 0, 0⟩)
abbrev s_is_camera : Stmt := top 11
abbrev N_is_camera : List Str := ["side", "camera", "reach", "blur", "glare", "limit"]
theorem sc_is_camera : FnScope N_is_camera ["side", "camera"] (defScope s_is_camera) := ⟨rfl, rfl, rfl, by decide +kernel, rfl, by decide +kernel, by decide +kernel⟩
abbrev s_is_star : Stmt := top 12
abbrev N_is_star : List Str := ["side", "star"]
theorem sc_is_star : FnScope N_is_star ["side", "star"] (defScope s_is_star) := ⟨rfl, rfl, rfl, by decide +kernel, rfl, by decide +kernel, by decide +kernel⟩
abbrev s_moved_place : Stmt := top 13
abbrev N_moved_place : List Str := ["side", "place", "motion", "x", "y", "_"]
theorem sc_moved_place : FnScope N_moved_place ["side", "place", "motion"] (defScope s_moved_place) := ⟨rfl, rfl, rfl, by decide +kernel, rfl, by decide +kernel, by decide +kernel⟩
abbrev s_is_motion : Stmt := top 14
abbrev N_is_motion : List Str := ["side", "motion"]
theorem sc_is_motion : FnScope N_is_motion ["side", "motion"] (defScope s_is_motion) := ⟨rfl, rfl, rfl, by decide +kernel, rfl, by decide +kernel, by decide +kernel⟩
abbrev s_Sky___init__ : Stmt := inClass (top 15) 0
abbrev N_Sky___init__ : List Str := ["self", "side", "stars", "camera", "star"]
theorem sc_Sky___init__ : FnScope N_Sky___init__ ["self", "side", "stars", "camera"] (defScope s_Sky___init__) := ⟨rfl, rfl, rfl, by decide +kernel, rfl, by decide +kernel, by decide +kernel⟩
abbrev s_Sky_side : Stmt := inClass (top 15) 1
abbrev N_Sky_side : List Str := ["self"]
theorem sc_Sky_side : FnScope N_Sky_side ["self"] (defScope s_Sky_side) := ⟨rfl, rfl, rfl, by decide +kernel, rfl, by decide +kernel, by decide +kernel⟩
abbrev s_Sky_stars : Stmt := inClass (top 15) 2
abbrev N_Sky_stars : List Str := ["self"]
theorem sc_Sky_stars : FnScope N_Sky_stars ["self"] (defScope s_Sky_stars) := ⟨rfl, rfl, rfl, by decide +kernel, rfl, by decide +kernel, by decide +kernel⟩
abbrev s_Sky_camera : Stmt := inClass (top 15) 3
abbrev N_Sky_camera : List Str := ["self"]
theorem sc_Sky_camera : FnScope N_Sky_camera ["self"] (defScope s_Sky_camera) := ⟨rfl, rfl, rfl, by decide +kernel, rfl, by decide +kernel, by decide +kernel⟩
abbrev s_Sky_reach : Stmt := inClass (top 15) 4
abbrev N_Sky_reach : List Str := ["self"]
theorem sc_Sky_reach : FnScope N_Sky_reach ["self"] (defScope s_Sky_reach) := ⟨rfl, rfl, rfl, by decide +kernel, rfl, by decide +kernel, by decide +kernel⟩
abbrev s_Sky_blur : Stmt := inClass (top 15) 5
abbrev N_Sky_blur : List Str := ["self"]
theorem sc_Sky_blur : FnScope N_Sky_blur ["self"] (defScope s_Sky_blur) := ⟨rfl, rfl, rfl, by decide +kernel, rfl, by decide +kernel, by decide +kernel⟩
abbrev s_Sky_glare : Stmt := inClass (top 15) 6
abbrev N_Sky_glare : List Str := ["self"]
theorem sc_Sky_glare : FnScope N_Sky_glare ["self"] (defScope s_Sky_glare) := ⟨rfl, rfl, rfl, by decide +kernel, rfl, by decide +kernel, by decide +kernel⟩
abbrev s_Sky_limit : Stmt := inClass (top 15) 7
abbrev N_Sky_limit : List Str := ["self"]
theorem sc_Sky_limit : FnScope N_Sky_limit ["self"] (defScope s_Sky_limit) := ⟨rfl, rfl, rfl, by decide +kernel, rfl, by decide +kernel, by decide +kernel⟩
abbrev s_Sky_star_at : Stmt := inClass (top 15) 8
abbrev N_Sky_star_at : List Str := ["self", "number"]
theorem sc_Sky_star_at : FnScope N_Sky_star_at ["self", "number"] (defScope s_Sky_star_at) := ⟨rfl, rfl, rfl, by decide +kernel, rfl, by decide +kernel, by decide +kernel⟩
abbrev s_Sky_with_star : Stmt := inClass (top 15) 10
abbrev N_Sky_with_star : List Str := ["self", "star"]
theorem sc_Sky_with_star : FnScope N_Sky_with_star ["self", "star"] (defScope s_Sky_with_star) := ⟨rfl, rfl, rfl, by decide +kernel, rfl, by decide +kernel, by decide +kernel⟩
abbrev s_Sky_without_star : Stmt := inClass (top 15) 11
abbrev N_Sky_without_star : List Str := ["self", "number"]
theorem sc_Sky_without_star : FnScope N_Sky_without_star ["self", "number"] (defScope s_Sky_without_star) := ⟨rfl, rfl, rfl, by decide +kernel, rfl, by decide +kernel, by decide +kernel⟩
abbrev s_Sky_with_camera : Stmt := inClass (top 15) 13
abbrev N_Sky_with_camera : List Str := ["self", "camera"]
theorem sc_Sky_with_camera : FnScope N_Sky_with_camera ["self", "camera"] (defScope s_Sky_with_camera) := ⟨rfl, rfl, rfl, by decide +kernel, rfl, by decide +kernel, by decide +kernel⟩
abbrev s_Sky_moved : Stmt := inClass (top 15) 14
abbrev N_Sky_moved : List Str := ["self", "motion", "stars", "star"]
theorem sc_Sky_moved : FnScope N_Sky_moved ["self", "motion"] (defScope s_Sky_moved) := ⟨rfl, rfl, rfl, by decide +kernel, rfl, by decide +kernel, by decide +kernel⟩
abbrev s_Desk___init__ : Stmt := inClass (top 17) 0
abbrev N_Desk___init__ : List Str := ["self", "sky"]
theorem sc_Desk___init__ : FnScope N_Desk___init__ ["self", "sky"] (defScope s_Desk___init__) := ⟨rfl, rfl, rfl, by decide +kernel, rfl, by decide +kernel, by decide +kernel⟩
abbrev s_Desk_sky_now : Stmt := inClass (top 17) 2
abbrev N_Desk_sky_now : List Str := ["self"]
theorem sc_Desk_sky_now : FnScope N_Desk_sky_now ["self"] (defScope s_Desk_sky_now) := ⟨rfl, rfl, rfl, by decide +kernel, rfl, by decide +kernel, by decide +kernel⟩
abbrev s_Desk_change_to : Stmt := inClass (top 17) 3
abbrev N_Desk_change_to : List Str := ["self", "sky"]
theorem sc_Desk_change_to : FnScope N_Desk_change_to ["self", "sky"] (defScope s_Desk_change_to) := ⟨rfl, rfl, rfl, by decide +kernel, rfl, by decide +kernel, by decide +kernel⟩
abbrev s_Desk_put_star : Stmt := inClass (top 17) 4
abbrev N_Desk_put_star : List Str := ["self", "star"]
theorem sc_Desk_put_star : FnScope N_Desk_put_star ["self", "star"] (defScope s_Desk_put_star) := ⟨rfl, rfl, rfl, by decide +kernel, rfl, by decide +kernel, by decide +kernel⟩
abbrev s_Desk_drop_star : Stmt := inClass (top 17) 5
abbrev N_Desk_drop_star : List Str := ["self", "number"]
theorem sc_Desk_drop_star : FnScope N_Desk_drop_star ["self", "number"] (defScope s_Desk_drop_star) := ⟨rfl, rfl, rfl, by decide +kernel, rfl, by decide +kernel, by decide +kernel⟩
abbrev s_Desk_set_camera : Stmt := inClass (top 17) 6
abbrev N_Desk_set_camera : List Str := ["self", "camera"]
theorem sc_Desk_set_camera : FnScope N_Desk_set_camera ["self", "camera"] (defScope s_Desk_set_camera) := ⟨rfl, rfl, rfl, by decide +kernel, rfl, by decide +kernel, by decide +kernel⟩
abbrev s_Desk_move_sky : Stmt := inClass (top 17) 7
abbrev N_Desk_move_sky : List Str := ["self", "motion"]
theorem sc_Desk_move_sky : FnScope N_Desk_move_sky ["self", "motion"] (defScope s_Desk_move_sky) := ⟨rfl, rfl, rfl, by decide +kernel, rfl, by decide +kernel, by decide +kernel⟩
abbrev s_Desk_undo : Stmt := inClass (top 17) 9
abbrev N_Desk_undo : List Str := ["self"]
theorem sc_Desk_undo : FnScope N_Desk_undo ["self"] (defScope s_Desk_undo) := ⟨rfl, rfl, rfl, by decide +kernel, rfl, by decide +kernel, by decide +kernel⟩
abbrev s_Desk_redo : Stmt := inClass (top 17) 10
abbrev N_Desk_redo : List Str := ["self"]
theorem sc_Desk_redo : FnScope N_Desk_redo ["self"] (defScope s_Desk_redo) := ⟨rfl, rfl, rfl, by decide +kernel, rfl, by decide +kernel, by decide +kernel⟩
abbrev s_Desk_change_all : Stmt := inClass (top 17) 15
abbrev N_Desk_change_all : List Str := ["self", "deeds", "desk", "deed"]
theorem sc_Desk_change_all : FnScope N_Desk_change_all ["self", "deeds"] (defScope s_Desk_change_all) := ⟨rfl, rfl, rfl, by decide +kernel, rfl, by decide +kernel, by decide +kernel⟩
abbrev s_Desk_make : Stmt := inClass (top 17) 16
abbrev N_Desk_make : List Str := ["self", "deed"]
theorem sc_Desk_make : FnScope N_Desk_make ["self", "deed"] (defScope s_Desk_make) := ⟨rfl, rfl, rfl, by decide +kernel, rfl, by decide +kernel, by decide +kernel⟩
abbrev s__law_row : Stmt := top 19
abbrev N__law_row : List Str := ["_law_cell", "_law_many", "_law_row_here", "_law_rest", "_law_state", "_law_k"]
theorem sc__law_row : FnScope N__law_row ["_law_cell", "_law_many"] (defScope s__law_row) := ⟨rfl, rfl, rfl, by decide +kernel, rfl, by decide +kernel, by decide +kernel⟩
abbrev s__law_numbers : Stmt := top 20
abbrev N__law_numbers : List Str := ["_law_script", "_law_many", "_law_cells", "_law_each", "_law_numbers_here", "_law_cell", "_law_number"]
theorem sc__law_numbers : FnScope N__law_numbers ["_law_script", "_law_many"] (defScope s__law_numbers) := ⟨rfl, rfl, rfl, by decide +kernel, rfl, by decide +kernel, by decide +kernel⟩
abbrev s__law_parts : Stmt := top 21
abbrev N__law_parts : List Str := ["_law_numbers_here", "_law_at", "_law_most", "_law_side", "_law_half", "_law_reach", "_law_blur", "_law_camera", "_law_stars", "_law_k", "_law_place", "_law_star"]
theorem sc__law_parts : FnScope N__law_parts ["_law_numbers_here", "_law_at", "_law_most"] (defScope s__law_parts) := ⟨rfl, rfl, rfl, by decide +kernel, rfl, by decide +kernel, by decide +kernel⟩
abbrev s__law_turn : Stmt := top 22
abbrev N__law_turn : List Str := ["_law_quarter", "_law_pair", "_law_x", "_law_y"]
theorem sc__law_turn : FnScope N__law_turn ["_law_quarter", "_law_pair"] (defScope s__law_turn) := ⟨rfl, rfl, rfl, by decide +kernel, rfl, by decide +kernel, by decide +kernel⟩
abbrev s__law_moved : Stmt := top 23
abbrev N__law_moved : List Str := ["_law_side", "_law_star", "_law_motion", "_law_x", "_law_y"]
theorem sc__law_moved : FnScope N__law_moved ["_law_side", "_law_star", "_law_motion"] (defScope s__law_moved) := ⟨rfl, rfl, rfl, by decide +kernel, rfl, by decide +kernel, by decide +kernel⟩
abbrev s__law_is_camera : Stmt := top 24
abbrev N__law_is_camera : List Str := ["_law_side", "_law_camera", "_law_reach", "_law_blur", "_law_glare", "_law_limit"]
theorem sc__law_is_camera : FnScope N__law_is_camera ["_law_side", "_law_camera"] (defScope s__law_is_camera) := ⟨rfl, rfl, rfl, by decide +kernel, rfl, by decide +kernel, by decide +kernel⟩
abbrev s__law_behind : Stmt := top 25
abbrev N__law_behind : List Str := ["_law_parts_here", "_law_deed_here", "_law_side", "_law_stars", "_law_camera", "_law_good", "_law_star"]
theorem sc__law_behind : FnScope N__law_behind ["_law_parts_here", "_law_deed_here"] (defScope s__law_behind) := ⟨rfl, rfl, rfl, by decide +kernel, rfl, by decide +kernel, by decide +kernel⟩
abbrev s__law_deed : Stmt := top 26
abbrev N__law_deed : List Str := ["_law_parts_here", "_law_numbers_here", "_law_at", "_law_side", "_law_stars", "_law_camera", "_law_kind", "_law_one", "_law_two", "_law_three", "_law_four", "_law_k"]
theorem sc__law_deed : FnScope N__law_deed ["_law_parts_here", "_law_numbers_here", "_law_at"] (defScope s__law_deed) := ⟨rfl, rfl, rfl, by decide +kernel, rfl, by decide +kernel, by decide +kernel⟩
abbrev s__law_do : Stmt := top 27
abbrev N__law_do : List Str := ["_law_desk", "_law_deed_here", "error"]
theorem sc__law_do : FnScope N__law_do ["_law_desk", "_law_deed_here"] (defScope s__law_do) := ⟨rfl, rfl, rfl, by decide +kernel, rfl, by decide +kernel, by decide +kernel⟩
abbrev s__law_told : Stmt := top 28
abbrev N__law_told : List Str := ["_law_desk", "_law_sky"]
theorem sc__law_told : FnScope N__law_told ["_law_desk"] (defScope s__law_told) := ⟨rfl, rfl, rfl, by decide +kernel, rfl, by decide +kernel, by decide +kernel⟩
abbrev s__law_all : Stmt := top 29
abbrev N__law_all : List Str := ["_law_desk", "_law_deeds", "error"]
theorem sc__law_all : FnScope N__law_all ["_law_desk", "_law_deeds"] (defScope s__law_all) := ⟨rfl, rfl, rfl, by decide +kernel, rfl, by decide +kernel, by decide +kernel⟩
abbrev s__law_ways : Stmt := top 30
abbrev N__law_ways : List Str := ["_law_desk", "_law_found", "_law_k", "_law_many"]
theorem sc__law_ways : FnScope N__law_ways ["_law_desk"] (defScope s__law_ways) := ⟨rfl, rfl, rfl, by decide +kernel, rfl, by decide +kernel, by decide +kernel⟩
abbrev s__law_can : Stmt := top 31
abbrev N__law_can : List Str := ["_law_desk", "_law_word"]
theorem sc__law_can : FnScope N__law_can ["_law_desk", "_law_word"] (defScope s__law_can) := ⟨rfl, rfl, rfl, by decide +kernel, rfl, by decide +kernel, by decide +kernel⟩
abbrev s_law : Stmt := top 32
abbrev N_law : List Str := ["_law_script", "_law_numbers_here", "_law_parts_here", "_law_desk", "_law_k", "_law_start", "_law_ways_here", "_law_state", "_law_deeds", "_law_steps", "_law_due", "_law_deed_here", "_law_behind_here", "_law_handed", "_law_step"]
theorem sc_law : FnScope N_law ["_law_script"] (defScope s_law) := ⟨rfl, rfl, rfl, by decide +kernel, rfl, by decide +kernel, by decide +kernel⟩
end DL

set_option maxRecDepth 100000
set_option maxHeartbeats 4000000
namespace DL
open PySem L2
local macro_rules | `(tactic| walk_at "ds") => `(tactic| first | with_reducible assumption | exact eqok_tupD _ | exact eqok_kss _ | exact eqok3 | with_unfolding_all exact Eq.refl _ | exact Nat.le_of_ble_eq_true (Eq.refl true) | omega | decide | exact cdivW (by omega))
local macro_rules | `(tactic| walk_at "dv") => `(tactic| first
  | ((with_reducible show EV _ (tVar _) _ _); first | exact ev_var (by with_unfolding_all exact Eq.refl _) | exact ev_own (by with_unfolding_all exact Eq.refl _) | exact ev_ownI (by with_unfolding_all exact Eq.refl _))
  | ((with_reducible show EV _ (tC _) _ _); with_reducible first | exact ev_int | exact ev_str | exact ev_bl | exact ev_non)
  | ((with_reducible show EV _ (tOp _ _ _) _ _); exact ev_op (by walk_at "dv") (by walk_at "dv") (by walk_at "do"))
  | ((with_reducible show EV _ (tUn _ _) _ _); exact ev_un (by walk_at "dv") (by with_reducible exact neg_int))
  | ((with_reducible show EV _ (tChain _ _ _ _ _) _ _); exact ev_chain (by walk_at "dv") (by walk_at "dv") (by walk_at "do") (fun _ => by walk_at "dv") (fun _ => by walk_at "do"))
  | ((with_reducible show EV _ (tCB _ _) _ _); exact ev_cb (by walk_at "dv") (by walk_at "dc"))
  | ((with_reducible show EV _ (tAndV _ _) _ _); exact ev_andV (by walk_at "dv") (fun _ => by walk_at "dv"))
  | ((with_reducible show EV _ (tOrV _ _) _ _); exact ev_orV (by walk_at "dv") (fun _ => by walk_at "dv"))
  | ((with_reducible show EV _ (tNotV _) _ _); exact ev_notV (by walk_at "dv"))
  | ((with_reducible show EV _ (tIf _ _ _) _ _); exact ev_if (by walk_at "dv") (fun _ => by walk_at "dv") (fun _ => by walk_at "dv"))
  | ((with_reducible show EV _ (tSl _ _ _ _) _ _); exact ev_sl (by walk_at "dv") (by walk_at "dv") (by walk_at "dv") (by walk_at "dl"))
  | ((with_reducible show EV _ (tTup _) _ _); exact ev_tup (by walk_at "dv") (by walk_at "dt") (by walk_at "ds"))
  | ((with_reducible show EV _ (tLst _) _ _); exact ev_lst (by walk_at "dv") (by walk_at "dt") (by walk_at "ds"))
  | ((with_reducible show AV _ tNil _ _); exact av_nil)
  | ((with_reducible show AV _ (tCons _ _) _ _); exact av_cons (by walk_at "dv") (by walk_at "dv"))
  | ((with_reducible show OV _ tNoPart _ _); exact ov_none)
  | ((with_reducible show OV _ (tPart _) _ _); exact ov_some (by walk_at "dv"))
  | ((with_reducible show TV _ (tTest _) _ _); exact tv_test (by walk_at "dv"))
  | ((with_reducible show TV _ (tB _) _ _); exact tv_B (by walk_at "dv"))
  | ((with_reducible show TV _ (tNot _) _ _); exact tv_not (by walk_at "dv"))
  | ((with_reducible show TV _ (tAnd _ _) _ _); exact tv_and (by walk_at "dv") (fun _ => by walk_at "dv"))
  | ((with_reducible show TV _ (tOr _ _) _ _); exact tv_or (by walk_at "dv") (fun _ => by walk_at "dv"))
  | ((fail_if_success (with_reducible first | show TV _ (tTest _) _ _ | show TV _ (tB _) _ _ | show TV _ (tNot _) _ _ | show TV _ (tAnd _ _) _ _ | show TV _ (tOr _ _) _ _)); (with_reducible show TV _ _ _ _); exact tv_truB (by walk_at "dv"))
  | ((with_reducible show EV _ (tCallS _ _ _) _ _); exact ev_call (by walk_at "dv") (by walk_at "dt") (by walk_at "dr"))
  | ((with_reducible show EV _ (tFld _ _ _) _ _); exact ev_fld (by walk_at "dv") (by first | exact .st | exact .li | exact .fi) (by with_reducible assumption) (by with_reducible assumption) (by with_unfolding_all exact Eq.refl _))
  | ((with_reducible show EV _ (tProp _ _ _ _ _) _ _); exact ev_prop (by walk_at "dv") (by walk_at "dt") (by walk_at "dr"))
  | ((with_reducible show EV _ (tMethW _ _ _ _ _ _) _ _); exact ev_meth (by walk_at "dv") (by with_unfolding_all exact Eq.refl _) (by walk_at "dv") (by walk_at "dt") (by walk_at "dr")))
local macro_rules | `(tactic| walk_at "do") => `(tactic| with_reducible first
  | exact add_int | exact sub_int | exact lt_int | exact le_int | exact gt_int | exact ge_int
  | exact ix_lst .st (by assumption) | exact ix_lst .fr (by assumption) | exact ix_lst .ls (by assumption) | exact ix_tup (by assumption)
  | exact ix_tup (by with_unfolding_all exact Eq.refl _) | exact ix_lst .st (by with_unfolding_all exact Eq.refl _) | exact ix_lst .ls (by with_unfolding_all exact Eq.refl _) | exact ix_lst .fr (by with_unfolding_all exact Eq.refl _)
  | exact eq_int | exact ne_int | exact eq_strV | exact eq_str (by walk_at "ds") (by walk_at "ds") | exact ne_str (by walk_at "ds") (by walk_at "ds")
  | exact eq_dat .st .st (by walk_at "ds") (by walk_at "ds") | exact ne_dat .st .st (by walk_at "ds") (by walk_at "ds")
  | exact notin_lst .st .ls (by walk_at "ds") (by walk_at "ds") | exact in_lst .st .st (by walk_at "ds") (by walk_at "ds") | exact in_lst .st .ls (by walk_at "ds") (by walk_at "ds")
  | exact in_tup .st (by walk_at "ds") (by walk_at "ds")
  | exact mul_int (by walk_at "ds") | exact mod_int (by walk_at "ds") | exact fdiv_int (by walk_at "ds"))
local macro_rules | `(tactic| walk_at "dc") => `(tactic| with_reducible first
  | exact len_tup | exact len_lst .st | exact len_lst .ls | exact len_lst .fr
  | exact abs_int | exact max2_int | exact min2_int | exact min3_int | exact int_int | exact int_bl
  | exact list_tup | exact list_lst .st | exact list_lst .ls | exact list_lst .fr
  | exact all_bls .st | exact all_bls .ls | exact all_bls .fr)
local macro_rules | `(tactic| walk_at "dt") => `(tactic| first
  | ((with_reducible show Stb (Vd.st _) _); exact Stb.st)
  | ((with_reducible show Stb (Vd.fr _) _); exact Stb.fr)
  | ((with_reducible show Stb (Vd.fi _ _) _); exact Stb.fi)
  | ((with_reducible show Stbs [] _); with_reducible exact Stbs.nil)
  | ((with_reducible show Stbs (_ :: _) _); exact Stbs.cons (by walk_at "dt") (by walk_at "dt")))
local macro_rules | `(tactic| walk_at "dg") => `(tactic| first
  | ((with_reducible show GV _ gNil _ _ _); with_reducible exact gv_nil)
  | ((with_reducible show GV _ (gCons (gName _) _) (_ :: _) _ _); exact gv_cons (by walk_at "dg")))
local macro_rules | `(tactic| walk_at "sv") => `(tactic| first
  | with_reducible refine sv_seq ?_
  | with_reducible refine sv_next ?_
  | ((with_reducible show SV _ _ (tIfS _ _ _) _ _); refine sv_if (by walk_at "dv") ?_ ?_)
  | ((with_reducible show SV _ _ (tRet _) _ _); refine sv_retV (by walk_at "dv") (by walk_at "dt") ?_)
  | ((with_reducible show SV _ _ (tAsg _ (gTup _ _ _)) _ _); refine sv_tup (ee_of (by walk_at "dv") (by walk_at "dt")) (by rfl) (by walk_at "dg") ?_)
  | ((with_reducible show SV _ _ (tAsg _ (gName _)) _ _); refine sv_setV (by walk_at "dv") (by walk_at "dt") ?_)
  | ((with_reducible show SV _ _ (tPar _ _ _) _ _); refine sv_par (by walk_at "dv") (by walk_at "dt") ?_)
  | ((with_reducible show SV _ _ (tRaise0 _ _) _ _); refine sv_raise0 ?_)
  | ((with_reducible show SV _ _ (tRaise1 _ _ _ _) _ _); refine sv_raise1 (by walk_at "dv") (by walk_at "dt") ?_)
  | ((with_reducible refine thn_nx ?_); try dsimp only [List.set]))
local macro_rules | `(tactic| walk_at "sx") => `(tactic| first | (intro hx; exact absurd hx (by decide)) | (intro hx; exfalso; simp at hx))
local macro_rules | `(tactic| walk_at "bo") => `(tactic| (simp only [Bool.or_eq_true, Bool.not_eq_true', Bool.and_eq_false_iff, Bool.or_eq_false_iff, Bool.not_eq_false', decide_eq_false_iff_not, decide_eq_true_eq, Bool.and_eq_true, Bool.eq_false_iff, ne_eq, Bool.true_and, Bool.and_true] at * <;> omega))
theorem log_lt {n k : Nat} (h : n < 2 ^ k) (hk : 0 < k) : n.log2 < k := by
  by_cases z : n = 0
  · subst z; simpa using hk
  · exact (Nat.log2_lt z).mpr h
theorem mulW_of {i j : Int} (h1 : i.natAbs < 2 ^ 400000) (h2 : j.natAbs < 2 ^ 400000) : CMulW i j := by
  have a := log_lt h1 (by decide)
  have b := log_lt h2 (by decide)
  show _ < _
  omega
/-- not beyond 2^60 -/
def sm (i : Int) : Prop := i.natAbs < 2 ^ 60
theorem two_mulW {i j : Int} (h1 : sm i) (h2 : sm j) : CMulW 2 (i + j) := by
  unfold sm at h1 h2
  have : (2 : Nat) ^ 62 ≤ 2 ^ 400000 := Nat.pow_le_pow_right (by decide) (by decide)
  exact mulW_of (Nat.lt_of_lt_of_le (by decide : (2 : Int).natAbs < 2 ^ 62) this) (Nat.lt_of_lt_of_le (by omega : (i + j).natAbs < 2 ^ 62) this)
section
variable {P : Program} {w : World} {K : Frag} {mg : Str → Option Value} {base : Heap}
def camB (side reach blur glare limit : Int) : Bool :=
  if (!(decide (0 ≤ reach) && decide (reach ≤ 4)) || (!(decide (0 ≤ blur) && decide (blur ≤ 2)) || (!(decide (0 ≤ glare) && decide (glare ≤ 2)) || !(decide (1 ≤ limit) && decide (limit ≤ 9))))) = true then false
  else decide (blur ≤ reach) && decide (2 * (reach + blur) + 1 ≤ side)
def R_is_camera (ds : List D) (r : Res) : Prop := ∃ side reach blur glare limit : Int, ds = [.int side, tupD [reach, blur, glare, limit]] ∧ sm reach ∧ sm blur ∧ r = .ret (.bl (camB side reach blur glare limit))
theorem R_is_camera_mk {side reach blur glare limit : Int} (h1 : sm reach) (h2 : sm blur) : R_is_camera [.int side, .tup [.int reach, .int blur, .int glare, .int limit]] (.ret (.bl (camB side reach blur glare limit))) := ⟨_, _, _, _, _, rfl, h1, h2, rfl⟩
theorem f_is_camera {f : Addr} {fd : FuncData} (F : Fun K "is_camera" "is_camera" s_is_camera f fd) (g_len : mg "len" = none) : FnOk P w K mg base (L2.CX P w) 1 f fd ["side", "camera"] (spF K R_is_camera) := by
  refine fnF F sc_is_camera ?_ fun cdv A outer s H E hr => ?_
  rotate_left
  have tk : Takes (cx P w K mg base N_is_camera "is_camera" s_is_camera f cdv A outer s H E) (wE E) := takes_of rfl rfl rfl rfl
  have po : PassesOwn (model (cx P w K mg base N_is_camera "is_camera" s_is_camera f cdv A outer s H E).prog (cx P w K mg base N_is_camera "is_camera" s_is_camera f cdv A outer s H E).w) (cx P w K mg base N_is_camera "is_camera" s_is_camera f cdv A outer s H E).A (cx P w K mg base N_is_camera "is_camera" s_is_camera f cdv A outer s H E).env (cx P w K mg base N_is_camera "is_camera" s_is_camera f cdv A outer s H E).xe := passes_of (X := cx P w K mg base N_is_camera "is_camera" s_is_camera f cdv A outer s H E) rfl
  have sc := sc_is_camera
  refine ⟨_, (pss_cons (ps_if (pt_cmpR (op_neD hr.units) (pe_callB u_len (by rfl) g_len (by decide +kernel) (pa_cons (pv 1) pa_nil)) pe_int (nomark _)) (pss_one (ps_ret pe_bl)) pss_nil)
    (pss_cons (ps_asg (pv 1) (pg_tup rfl (pgs_cons (pg_name (i := 2) sc.nd rfl (Or.inl rfl)) (pgs_cons (pg_name (i := 3) sc.nd rfl (Or.inl rfl)) (pgs_cons (pg_name (i := 4) sc.nd rfl (Or.inl rfl)) (pgs_cons (pg_name (i := 5) sc.nd rfl (Or.inl rfl)) pgs_nil))))))
    (pss_cons (ps_if (PW.pt (pw_or (pt_not (pt_chain op_le op_le pe_int (pv 2) pe_int)) (pw_or (pt_not (pt_chain op_le op_le pe_int (pv 3) pe_int)) (pw_or (pt_not (pt_chain op_le op_le pe_int (pv 4) pe_int)) (pw_or1 (pt_not (pt_chain op_le op_le pe_int (pv 5) pe_int))))))) (pss_one (ps_ret pe_bl)) pss_nil)
    (pss_one (ps_ret (pe_and (pe_cmpR op_le (pv 3) (pv 2) (nomark _)) (pe_one (pe_cmpR op_le (pe_op u_add (pe_op op_mulW pe_int (pe_op u_add (pv 2) (pv 3))) pe_int) (pv 0) (nomark _))))))))), ?_⟩
  try simp only [show (cx P w K mg base N_is_camera "is_camera" s_is_camera f cdv A outer s H E).K = K from rfl, show (cx P w K mg base N_is_camera "is_camera" s_is_camera f cdv A outer s H E).prog = P from rfl, show (cx P w K mg base N_is_camera "is_camera" s_is_camera f cdv A outer s H E).w = w from rfl]
  clear tk po sc
  · rintro ds r ⟨side, reach, blur, glare, limit, rfl, h1, h2, rfl⟩
    simp only [start0, tupD, List.map_cons, List.map_nil, List.length_cons, List.length_nil, Nat.reduceAdd, Nat.reduceSub, List.reduceReplicate, List.cons_append, List.nil_append]
    have m1 := two_mulW h1 h2
    repeat (walk_at "sv")
    · walk_at "sx"
    intro _
    repeat (walk_at "sv")
    · intro h
      repeat (walk_at "sv")
      show Res.ret _ = Res.ret _
      unfold camB
      rw [if_pos h]
    · intro h
      repeat (walk_at "sv")
      show Res.ret _ = Res.ret _
      unfold camB
      rw [if_neg (by rw [h]; decide)]
  · rintro ds r ⟨side, reach, blur, glare, limit, rfl, h1, h2, rfl⟩
    rfl
def starB (side x y b : Int) : Bool := (decide (0 ≤ x) && decide (x < side)) && ((decide (0 ≤ y) && decide (y < side)) && (decide (1 ≤ b) && decide (b ≤ 9)))
def R_is_star (ds : List D) (r : Res) : Prop := ∃ side x y b : Int, ds = [.int side, tupD [x, y, b]] ∧ r = .ret (.bl (starB side x y b))
theorem R_is_star_mk {side x y b : Int} : R_is_star [.int side, .tup [.int x, .int y, .int b]] (.ret (.bl (starB side x y b))) := ⟨_, _, _, _, rfl, rfl⟩
theorem f_is_star {f : Addr} {fd : FuncData} (F : Fun K "is_star" "is_star" s_is_star f fd) (g_len : mg "len" = none) : FnOk P w K mg base (L2.CX P w) 1 f fd ["side", "star"] (spF K R_is_star) := by
  refine fnF F sc_is_star ?_ fun cdv A outer s H E hr => ?_
  rotate_left
  have tk : Takes (cx P w K mg base N_is_star "is_star" s_is_star f cdv A outer s H E) (wE E) := takes_of rfl rfl rfl rfl
  have po : PassesOwn (model (cx P w K mg base N_is_star "is_star" s_is_star f cdv A outer s H E).prog (cx P w K mg base N_is_star "is_star" s_is_star f cdv A outer s H E).w) (cx P w K mg base N_is_star "is_star" s_is_star f cdv A outer s H E).A (cx P w K mg base N_is_star "is_star" s_is_star f cdv A outer s H E).env (cx P w K mg base N_is_star "is_star" s_is_star f cdv A outer s H E).xe := passes_of (X := cx P w K mg base N_is_star "is_star" s_is_star f cdv A outer s H E) rfl
  have sc := sc_is_star
  refine ⟨_, (pss_one (ps_ret (pe_and (pe_cmpR (op_eqD hr.units) (pe_callB u_len (by rfl) g_len (by decide +kernel) (pa_cons (pv 1) pa_nil)) pe_int (nomark _)) (pe_and (pe_chain op_le op_lt pe_int (pe_ix ix_seq (pv 1) pe_int (fun _ _ => rfl)) (pv 0)) (pe_and (pe_chain op_le op_lt pe_int (pe_ix ix_seq (pv 1) pe_int (fun _ _ => rfl)) (pv 0)) (pe_one (pe_chain op_le op_le pe_int (pe_ix ix_seq (pv 1) pe_int (fun _ _ => rfl)) pe_int))))))), ?_⟩
  try simp only [show (cx P w K mg base N_is_star "is_star" s_is_star f cdv A outer s H E).K = K from rfl, show (cx P w K mg base N_is_star "is_star" s_is_star f cdv A outer s H E).prog = P from rfl, show (cx P w K mg base N_is_star "is_star" s_is_star f cdv A outer s H E).w = w from rfl]
  clear tk po sc
  · rintro ds r ⟨side, x, y, b, rfl, rfl⟩
    simp only [start0, tupD, List.map_cons, List.map_nil, List.length_cons, List.length_nil, Nat.reduceAdd, Nat.reduceSub, List.reduceReplicate, List.cons_append, List.nil_append]
    repeat (walk_at "sv")
    show Res.ret _ = Res.ret _
    simp [starB]
  · rintro ds r ⟨side, x, y, b, rfl, rfl⟩
    rfl
def motB (side x y q : Int) : Bool := (decide (0 ≤ x) && decide (x < side)) && ((decide (0 ≤ y) && decide (y < side)) && (decide (0 ≤ q) && decide (q ≤ 3)))
def R_is_motion (ds : List D) (r : Res) : Prop := ∃ side x y q : Int, ds = [.int side, tupD [x, y, q]] ∧ r = .ret (.bl (motB side x y q))
theorem R_is_motion_mk {side x y b : Int} : R_is_motion [.int side, .tup [.int x, .int y, .int b]] (.ret (.bl (motB side x y b))) := ⟨_, _, _, _, rfl, rfl⟩
theorem f_is_motion {f : Addr} {fd : FuncData} (F : Fun K "is_motion" "is_motion" s_is_motion f fd) (g_len : mg "len" = none) : FnOk P w K mg base (L2.CX P w) 1 f fd ["side", "motion"] (spF K R_is_motion) := by
  refine fnF F sc_is_motion ?_ fun cdv A outer s H E hr => ?_
  rotate_left
  have tk : Takes (cx P w K mg base N_is_motion "is_motion" s_is_motion f cdv A outer s H E) (wE E) := takes_of rfl rfl rfl rfl
  have po : PassesOwn (model (cx P w K mg base N_is_motion "is_motion" s_is_motion f cdv A outer s H E).prog (cx P w K mg base N_is_motion "is_motion" s_is_motion f cdv A outer s H E).w) (cx P w K mg base N_is_motion "is_motion" s_is_motion f cdv A outer s H E).A (cx P w K mg base N_is_motion "is_motion" s_is_motion f cdv A outer s H E).env (cx P w K mg base N_is_motion "is_motion" s_is_motion f cdv A outer s H E).xe := passes_of (X := cx P w K mg base N_is_motion "is_motion" s_is_motion f cdv A outer s H E) rfl
  have sc := sc_is_motion
  refine ⟨_, (pss_one (ps_ret (pe_and (pe_cmpR (op_eqD hr.units) (pe_callB u_len (by rfl) g_len (by decide +kernel) (pa_cons (pv 1) pa_nil)) pe_int (nomark _)) (pe_and (pe_chain op_le op_lt pe_int (pe_ix ix_seq (pv 1) pe_int (fun _ _ => rfl)) (pv 0)) (pe_and (pe_chain op_le op_lt pe_int (pe_ix ix_seq (pv 1) pe_int (fun _ _ => rfl)) (pv 0)) (pe_one (pe_chain op_le op_le pe_int (pe_ix ix_seq (pv 1) pe_int (fun _ _ => rfl)) pe_int))))))), ?_⟩
  try simp only [show (cx P w K mg base N_is_motion "is_motion" s_is_motion f cdv A outer s H E).K = K from rfl, show (cx P w K mg base N_is_motion "is_motion" s_is_motion f cdv A outer s H E).prog = P from rfl, show (cx P w K mg base N_is_motion "is_motion" s_is_motion f cdv A outer s H E).w = w from rfl]
  clear tk po sc
  · rintro ds r ⟨side, x, y, b, rfl, rfl⟩
    simp only [start0, tupD, List.map_cons, List.map_nil, List.length_cons, List.length_nil, Nat.reduceAdd, Nat.reduceSub, List.reduceReplicate, List.cons_append, List.nil_append]
    repeat (walk_at "sv")
    show Res.ret _ = Res.ret _
    simp [motB]
  · rintro ds r ⟨side, x, y, b, rfl, rfl⟩
    rfl
/-- turned n quarters -/
def rotN : Nat → Int → Int → Int × Int
  | 0, x, y => (x, y)
  | n + 1, x, y => (-(rotN n x y).2, (rotN n x y).1)
def movP (side x y a b q : Int) : List Int := [((rotN q.toNat x y).1 + a) % side, ((rotN q.toNat x y).2 + b) % side]
def R_moved_place (ds : List D) (r : Res) : Prop := ∃ side x y a b q : Int, ds = [.int side, tupD [x, y], tupD [a, b, q]] ∧ 0 < side ∧ 0 ≤ q ∧ q ≤ 3 ∧ r = .ret (tupD (movP side x y a b q))
theorem R_moved_place_mk {side x y a b q : Int} (h1 : 0 < side) (h2 : 0 ≤ q) (h3 : q ≤ 3) : R_moved_place [.int side, .tup [.int x, .int y], .tup [.int a, .int b, .int q]] (.ret (.tup ((movP side x y a b q).map D.int))) := ⟨_, _, _, _, _, _, rfl, h1, h2, h3, rfl⟩
theorem f_moved_place {f : Addr} {fd : FuncData} (F : Fun K "moved_place" "moved_place" s_moved_place f fd) (g_range : mg "range" = none) : FnOk P w K mg base (L2.CX P w) 1 f fd ["side", "place", "motion"] (spF K R_moved_place) := by
  refine fnF F sc_moved_place ?_ fun cdv A outer s H E hr => ?_
  rotate_left
  have tk : Takes (cx P w K mg base N_moved_place "moved_place" s_moved_place f cdv A outer s H E) (wE E) := takes_of rfl rfl rfl rfl
  have po : PassesOwn (model (cx P w K mg base N_moved_place "moved_place" s_moved_place f cdv A outer s H E).prog (cx P w K mg base N_moved_place "moved_place" s_moved_place f cdv A outer s H E).w) (cx P w K mg base N_moved_place "moved_place" s_moved_place f cdv A outer s H E).A (cx P w K mg base N_moved_place "moved_place" s_moved_place f cdv A outer s H E).env (cx P w K mg base N_moved_place "moved_place" s_moved_place f cdv A outer s H E).xe := passes_of (X := cx P w K mg base N_moved_place "moved_place" s_moved_place f cdv A outer s H E) rfl
  have sc := sc_moved_place
  refine ⟨_, (pss_cons (ps_asg (pv 1) (pg_tup rfl (pgs_cons (pg_name (i := 3) sc.nd rfl (Or.inl rfl)) (pgs_cons (pg_name (i := 4) sc.nd rfl (Or.inl rfl)) pgs_nil))))
    (pss_cons (ps_for po rfl (pi_range1 (by rfl) g_range (pa_cons (pe_ix ix_seq (pv 2) pe_int (fun _ _ => rfl)) pa_nil)) (pg_name (i := 5) sc.nd rfl (Or.inl rfl)) (pss_one (ps_par (i := 3) (j := 4) rfl sc.nd rfl rfl (by decide) rfl rfl (pa_cons (pe_un un_neg (pv 4)) (pa_cons (pv 3) pa_nil)) (by rfl))))
    (pss_one (ps_ret (pe_tup (pa_cons (pe_op op_mod (pe_op u_add (pv 3) (pe_ix ix_seq (pv 2) pe_int (fun _ _ => rfl))) (pv 0)) (pa_cons (pe_op op_mod (pe_op u_add (pv 4) (pe_ix ix_seq (pv 2) pe_int (fun _ _ => rfl))) (pv 0)) pa_nil))))))), ?_⟩
  try simp only [show (cx P w K mg base N_moved_place "moved_place" s_moved_place f cdv A outer s H E).K = K from rfl, show (cx P w K mg base N_moved_place "moved_place" s_moved_place f cdv A outer s H E).prog = P from rfl, show (cx P w K mg base N_moved_place "moved_place" s_moved_place f cdv A outer s H E).w = w from rfl]
  clear tk po sc
  · rintro ds r ⟨side, x, y, a, b, q, rfl, h1, h2, h3, rfl⟩
    simp only [start0, tupD, List.map_cons, List.map_nil, List.length_cons, List.length_nil, Nat.reduceAdd, Nat.reduceSub, List.reduceReplicate, List.cons_append, List.nil_append]
    repeat (walk_at "sv")
    refine sv_forR1 (fun i ρ => ∃ s5, ρ = [.im (.int side), .im (.tup [.int x, .int y]), .im (.tup [.int a, .int b, .int q]), .im (.int (rotN i x y).1), .im (.int (rotN i x y).2), s5]) (by walk_at "dv") ⟨by omega, by omega⟩ ⟨_, rfl⟩ ?_ ?_
    · rintro i ρ1 hi ⟨s5, rfl⟩
      refine ⟨_, g1_name, ?_⟩
      dsimp only [List.set]
      repeat (walk_at "sv")
      exact ⟨_, rfl⟩
    · rintro ρ1 ⟨s5, rfl⟩
      repeat (walk_at "sv")
      rfl
  · rintro ds r ⟨side, x, y, a, b, q, rfl, h1, h2, h3, rfl⟩
    rfl
end
end DL

set_option maxRecDepth 100000
set_option maxHeartbeats 4000000
namespace DL
open PySem L2
local macro_rules | `(tactic| walk_at "ds") => `(tactic| first | with_reducible assumption | exact eqok_tupD _ | exact eqok_kss _ | exact eqok3 | with_unfolding_all exact Eq.refl _ | exact Nat.le_of_ble_eq_true (Eq.refl true) | omega | decide | exact cdivW (by omega))
local macro_rules | `(tactic| walk_at "dv") => `(tactic| first
  | ((with_reducible show EV _ (tVar _) _ _); first | exact ev_var (by with_unfolding_all exact Eq.refl _) | exact ev_own (by with_unfolding_all exact Eq.refl _) | exact ev_ownI (by with_unfolding_all exact Eq.refl _))
  | ((with_reducible show EV _ (tC _) _ _); with_reducible first | exact ev_int | exact ev_str | exact ev_bl | exact ev_non)
  | ((with_reducible show EV _ (tOp _ _ _) _ _); exact ev_op (by walk_at "dv") (by walk_at "dv") (by walk_at "do"))
  | ((with_reducible show EV _ (tUn _ _) _ _); exact ev_un (by walk_at "dv") (by with_reducible exact neg_int))
  | ((with_reducible show EV _ (tChain _ _ _ _ _) _ _); exact ev_chain (by walk_at "dv") (by walk_at "dv") (by walk_at "do") (fun _ => by walk_at "dv") (fun _ => by walk_at "do"))
  | ((with_reducible show EV _ (tCB _ _) _ _); exact ev_cb (by walk_at "dv") (by walk_at "dc"))
  | ((with_reducible show EV _ (tAndV _ _) _ _); exact ev_andV (by walk_at "dv") (fun _ => by walk_at "dv"))
  | ((with_reducible show EV _ (tOrV _ _) _ _); exact ev_orV (by walk_at "dv") (fun _ => by walk_at "dv"))
  | ((with_reducible show EV _ (tNotV _) _ _); exact ev_notV (by walk_at "dv"))
  | ((with_reducible show EV _ (tIf _ _ _) _ _); exact ev_if (by walk_at "dv") (fun _ => by walk_at "dv") (fun _ => by walk_at "dv"))
  | ((with_reducible show EV _ (tSl _ _ _ _) _ _); exact ev_sl (by walk_at "dv") (by walk_at "dv") (by walk_at "dv") (by walk_at "dl"))
  | ((with_reducible show EV _ (tTup _) _ _); exact ev_tup (by walk_at "dv") (by walk_at "dt") (by walk_at "ds"))
  | ((with_reducible show EV _ (tLst _) _ _); exact ev_lst (by walk_at "dv") (by walk_at "dt") (by walk_at "ds"))
  | ((with_reducible show AV _ tNil _ _); exact av_nil)
  | ((with_reducible show AV _ (tCons _ _) _ _); exact av_cons (by walk_at "dv") (by walk_at "dv"))
  | ((with_reducible show OV _ tNoPart _ _); exact ov_none)
  | ((with_reducible show OV _ (tPart _) _ _); exact ov_some (by walk_at "dv"))
  | ((with_reducible show TV _ (tTest _) _ _); exact tv_test (by walk_at "dv"))
  | ((with_reducible show TV _ (tB _) _ _); exact tv_B (by walk_at "dv"))
  | ((with_reducible show TV _ (tNot _) _ _); exact tv_not (by walk_at "dv"))
  | ((with_reducible show TV _ (tAnd _ _) _ _); exact tv_and (by walk_at "dv") (fun _ => by walk_at "dv"))
  | ((with_reducible show TV _ (tOr _ _) _ _); exact tv_or (by walk_at "dv") (fun _ => by walk_at "dv"))
  | ((fail_if_success (with_reducible first | show TV _ (tTest _) _ _ | show TV _ (tB _) _ _ | show TV _ (tNot _) _ _ | show TV _ (tAnd _ _) _ _ | show TV _ (tOr _ _) _ _)); (with_reducible show TV _ _ _ _); exact tv_truB (by walk_at "dv"))
  | ((with_reducible show EV _ (tCallS _ _ _) _ _); exact ev_call (by walk_at "dv") (by walk_at "dt") (by walk_at "dr"))
  | ((with_reducible show EV _ (tFld _ _ _) _ _); exact ev_fld (by walk_at "dv") (by first | exact .st | exact .li | exact .fi) (by with_reducible assumption) (by with_reducible assumption) (by with_unfolding_all exact Eq.refl _))
  | ((with_reducible show EV _ (tProp _ _ _ _ _) _ _); exact ev_prop (by walk_at "dv") (by walk_at "dt") (by walk_at "dr"))
  | ((with_reducible show EV _ (tMethW _ _ _ _ _ _) _ _); exact ev_meth (by walk_at "dv") (by with_unfolding_all exact Eq.refl _) (by walk_at "dv") (by walk_at "dt") (by walk_at "dr")))
local macro_rules | `(tactic| walk_at "do") => `(tactic| with_reducible first
  | exact add_int | exact sub_int | exact lt_int | exact le_int | exact gt_int | exact ge_int
  | exact ix_lst .st (by assumption) | exact ix_lst .fr (by assumption) | exact ix_lst .ls (by assumption) | exact ix_tup (by assumption)
  | exact ix_tup (by with_unfolding_all exact Eq.refl _) | exact ix_lst .st (by with_unfolding_all exact Eq.refl _) | exact ix_lst .ls (by with_unfolding_all exact Eq.refl _) | exact ix_lst .fr (by with_unfolding_all exact Eq.refl _)
  | exact eq_int | exact ne_int | exact eq_strV | exact eq_str (by walk_at "ds") (by walk_at "ds") | exact ne_str (by walk_at "ds") (by walk_at "ds")
  | exact eq_dat .st .st (by walk_at "ds") (by walk_at "ds") | exact ne_dat .st .st (by walk_at "ds") (by walk_at "ds")
  | exact notin_lst .st .ls (by walk_at "ds") (by walk_at "ds") | exact in_lst .st .st (by walk_at "ds") (by walk_at "ds") | exact in_lst .st .ls (by walk_at "ds") (by walk_at "ds")
  | exact in_tup .st (by walk_at "ds") (by walk_at "ds")
  | exact mul_int (by walk_at "ds") | exact mod_int (by walk_at "ds") | exact fdiv_int (by walk_at "ds"))
local macro_rules | `(tactic| walk_at "dc") => `(tactic| with_reducible first
  | exact len_tup | exact len_lst .st | exact len_lst .ls | exact len_lst .fr
  | exact abs_int | exact max2_int | exact min2_int | exact min3_int | exact int_int | exact int_bl
  | exact list_tup | exact list_lst .st | exact list_lst .ls | exact list_lst .fr
  | exact all_bls .st | exact all_bls .ls | exact all_bls .fr)
local macro_rules | `(tactic| walk_at "dt") => `(tactic| first
  | ((with_reducible show Stb (Vd.st _) _); exact Stb.st)
  | ((with_reducible show Stb (Vd.fr _) _); exact Stb.fr)
  | ((with_reducible show Stb (Vd.fi _ _) _); exact Stb.fi)
  | ((with_reducible show Stbs [] _); with_reducible exact Stbs.nil)
  | ((with_reducible show Stbs (_ :: _) _); exact Stbs.cons (by walk_at "dt") (by walk_at "dt")))
local macro_rules | `(tactic| walk_at "dg") => `(tactic| first
  | ((with_reducible show GV _ gNil _ _ _); with_reducible exact gv_nil)
  | ((with_reducible show GV _ (gCons (gName _) _) (_ :: _) _ _); exact gv_cons (by walk_at "dg")))
local macro_rules | `(tactic| walk_at "sv") => `(tactic| first
  | with_reducible refine sv_seq ?_
  | with_reducible refine sv_next ?_
  | ((with_reducible show SV _ _ (tIfS _ _ _) _ _); refine sv_if (by walk_at "dv") ?_ ?_)
  | ((with_reducible show SV _ _ (tRet _) _ _); refine sv_retV (by walk_at "dv") (by walk_at "dt") ?_)
  | ((with_reducible show SV _ _ (tAsg _ (gTup _ _ _)) _ _); refine sv_tup (ee_of (by walk_at "dv") (by walk_at "dt")) (by rfl) (by walk_at "dg") ?_)
  | ((with_reducible show SV _ _ (tAsg _ (gName _)) _ _); refine sv_setV (by walk_at "dv") (by walk_at "dt") ?_)
  | ((with_reducible show SV _ _ (tPar _ _ _) _ _); refine sv_par (by walk_at "dv") (by walk_at "dt") ?_)
  | ((with_reducible show SV _ _ (tRaise0 _ _) _ _); refine sv_raise0 ?_)
  | ((with_reducible show SV _ _ (tRaise1 _ _ _ _) _ _); refine sv_raise1 (by walk_at "dv") (by walk_at "dt") ?_)
  | ((with_reducible refine thn_nx ?_); try dsimp only [List.set]))
local macro_rules | `(tactic| walk_at "sx") => `(tactic| first | (intro hx; exact absurd hx (by decide)) | (intro hx; exfalso; simp at hx))
local macro_rules | `(tactic| walk_at "bo") => `(tactic| (simp only [Bool.or_eq_true, Bool.not_eq_true', Bool.and_eq_false_iff, Bool.or_eq_false_iff, Bool.not_eq_false', decide_eq_false_iff_not, decide_eq_true_eq, Bool.and_eq_true, Bool.eq_false_iff, ne_eq, Bool.true_and, Bool.and_true] at * <;> omega))
section
variable {P : Program} {w : World} {K : Frag} {mg : Str → Option Value} {base : Heap}
structure SkyC (K : Frag) (C : Addr) : Prop where
  cls : Cls K C
  n1 : NoAttr K C "_side"
  n2 : NoAttr K C "_stars"
  n3 : NoAttr K C "_camera"
def starK (side : Int) : List Int → Bool
  | [x, y, b] => starB side x y b
  | _ => false
/-- what a camera is: reach, blur, glare, limit -/
structure Cam where
  r : Int
  b : Int
  g : Int
  l : Int
def Cam.d (c : Cam) : D := .tup [.int c.r, .int c.b, .int c.g, .int c.l]
def Cam.ok (side : Int) (c : Cam) : Bool := camB side c.r c.b c.g c.l
def Cam.sm (c : Cam) : Prop := DL.sm c.r ∧ DL.sm c.b
/-- a plain sky -/
structure Sk where
  side : Int
  kss : List (List Int)
  cam : Cam
def Sk.fs (s : Sk) : List (Str × D) := [("_side", .int s.side), ("_stars", .tup (s.kss.map tupD)), ("_camera", s.cam.d)]
def Sk.ok (s : Sk) : Bool := !(!(decide (4 ≤ s.side) && decide (s.side ≤ 9)) || !(s.cam.ok s.side)) && (!(decide (20 < (s.kss.length : Int)) || !(s.kss.all (starK s.side))) && decide (((once s.kss).length : Int) = s.kss.length))
/-- the sky that is made of it -/
def Sk.mk' (s : Sk) : Sk := { s with kss := srt s.kss }
def Len3 (kss : List (List Int)) : Prop := ∀ k ∈ kss, k.length = 3
theorem starK_bd {side : Int} {k : List Int} (hs : side ≤ 9) (h3 : k.length = 3) (h : starK side k = true) : k.length = 3 ∧ TS.Bd 64 k := by
  refine ⟨h3, ?_⟩
  match k, h3 with
  | [x, y, b], _ =>
    have h' : starB side x y b = true := h
    unfold starB at h'
    simp only [Bool.and_eq_true, decide_eq_true_eq] at h'
    intro m hm
    simp only [List.mem_cons, List.not_mem_nil, or_false] at hm
    rcases hm with rfl | rfl | rfl <;> omega
theorem Sk.kss3 {s : Sk} (e : s.ok = true) (h3 : Len3 s.kss) : Kss 3 s.kss := fun k hk => by
  unfold Sk.ok at e
  simp only [Bool.and_eq_true, Bool.not_eq_true', Bool.or_eq_false_iff, Bool.not_eq_false', Bool.and_eq_true, decide_eq_true_eq, List.all_eq_true] at e
  exact starK_bd (by omega) (h3 k hk) (e.2.1.2 k hk)
def R_Sky_init (cI : Addr) (fs : List (Str × D)) (ds : List D) (r : Res) (fs' : List (Str × D)) : Prop := ∃ (s : Sk) (x : D), fs = [] ∧ ds = [.int s.side, x, s.cam.d] ∧ (x = .lst (s.kss.map tupD) ∨ x = .tup (s.kss.map tupD)) ∧ Len3 s.kss ∧ s.cam.sm ∧ s.kss.length < 2 ^ 20 ∧
  r = (if s.ok = true then .ret .non else .exc cI none) ∧ fs' = if s.ok = true then s.mk'.fs else []
theorem f_Sky_init {cS cI : Addr} {f : Addr} {fd : FuncData} (F : Fun K "__init__" "Sky.__init__" s_Sky___init__ f fd) (g_len : mg "len" = none) (g_all : mg "all" = none) (g_set : mg "set" = none) (g_sorted : mg "sorted" = none) (g_tuple : mg "tuple" = none) (k_MOST_STARS : ∃ t, mg "MOST_STARS" = some (.int 20 t))
    (e_InvalidSky : Ex0 K mg "InvalidSky" cI) (h_is_camera : DefN P w K mg base 1 "is_camera" (spF K R_is_camera)) (h_is_star : DefN P w K mg base 1 "is_star" (spF K R_is_star)) (sk : SkyC K cS) :
    FnOk P w K mg base (L2.CX P w) 2 f fd ["self", "side", "stars", "camera"] (spM K cS (R_Sky_init cI)) := by
  refine fnM F sc_Sky___init__ ?_ fun cdv A outer s H E hr => ?_
  rotate_left
  have tk : Takes (cx P w K mg base N_Sky___init__ "Sky.__init__" s_Sky___init__ f cdv A outer s H E) (wE E) := takes_of rfl rfl rfl rfl
  have po : PassesOwn (model (cx P w K mg base N_Sky___init__ "Sky.__init__" s_Sky___init__ f cdv A outer s H E).prog (cx P w K mg base N_Sky___init__ "Sky.__init__" s_Sky___init__ f cdv A outer s H E).w) (cx P w K mg base N_Sky___init__ "Sky.__init__" s_Sky___init__ f cdv A outer s H E).A (cx P w K mg base N_Sky___init__ "Sky.__init__" s_Sky___init__ f cdv A outer s H E).env (cx P w K mg base N_Sky___init__ "Sky.__init__" s_Sky___init__ f cdv A outer s H E).xe := passes_of (X := cx P w K mg base N_Sky___init__ "Sky.__init__" s_Sky___init__ f cdv A outer s H E) rfl
  have sc := sc_Sky___init__
  refine ⟨_, (pss_cons (ps_if (PW.pt (pw_or (pt_not (pt_chain op_le op_le pe_int (pv 1) pe_int)) (pw_or1 (pt_not (pt_truth (u_call h_is_camera tk hr (by first | decide | omega) rfl (pa_cons (pv 1) (pa_cons (pv 3) pa_nil))) (by intro _; rfl)))))) (pss_one (u_raise0 e_InvalidSky rfl tk rfl)) pss_nil)
    (pss_cons (ps_if (PW.pt (pw_or (pt_cmpR op_gt (pe_callB u_len (by rfl) g_len (by decide +kernel) (pa_cons (pv 2) pa_nil)) (u_gint k_MOST_STARS rfl) (nomark _)) (pw_or1 (pt_not (pt_truth (pe_callB (cr_all rfl) (by rfl) g_all (by decide +kernel) (pa_cons (pe_lc (own := [("star", 4)]) (g := gName 4) (tt := _) rfl sc.nd (pi_U (pv 2)) (blkOk_by (N := N_Sky___init__) (sc := defScope s_Sky___init__) (by decide +kernel)) (fun _ _ _ _ _ => (pg_name (i := 4) sc.nd rfl (Or.inl rfl))) (fun _ _ _ _ _ => pts_nil) (fun _ _ _ _ _ => (u_call h_is_star takes0 hr (by first | decide | omega) rfl (pa_cons (pv 1) (pa_cons (pv 4) pa_nil))))) pa_nil)) (by intro _; rfl)))))) (pss_one (u_raise0 e_InvalidSky rfl tk rfl)) pss_nil)
    (pss_cons (ps_if (pt_cmpR (op_neD hr.units) (pe_callB u_lenset (by rfl) g_len (by decide +kernel) (pa_cons (pe_callTy (u_set rfl hr.units) (by rfl) g_set (by decide +kernel) (pa_cons (pv 2) pa_nil)) pa_nil)) (pe_callB u_len (by rfl) g_len (by decide +kernel) (pa_cons (pv 2) pa_nil)) (nomark _)) (pss_one (u_raise0 e_InvalidSky rfl tk rfl)) pss_nil)
    (pss_cons (ps_fld (pv 0) (pv 1) rfl)
    (pss_cons (ps_fld (pv 0) (pe_callTy call_tuple_of (by rfl) g_tuple (by decide +kernel) (pa_cons (pe_callB u_sorted (by rfl) g_sorted (by decide +kernel) (pa_cons (pv 2) pa_nil)) pa_nil)) rfl)
    (pss_one (ps_fld (pv 0) (pv 3) rfl))))))), ?_⟩
  try simp only [show (cx P w K mg base N_Sky___init__ "Sky.__init__" s_Sky___init__ f cdv A outer s H E).K = K from rfl, show (cx P w K mg base N_Sky___init__ "Sky.__init__" s_Sky___init__ f cdv A outer s H E).prog = P from rfl, show (cx P w K mg base N_Sky___init__ "Sky.__init__" s_Sky___init__ f cdv A outer s H E).w = w from rfl]
  clear tk po sc
  · rintro fs ds r fs' ⟨s, x, rfl, rfl, hx, h3, hc, hl, rfl, rfl⟩
    have hlen : CbD K (rLenU K) [.st x] (.st (.int (s.kss.length : Int))) := by
      rcases hx with rfl | rfl
      · have := len_lst (K := K) (x := .st (.lst (s.kss.map tupD))) .st
        rwa [List.length_map] at this
      · have := len_tup (K := K) (ds := s.kss.map tupD)
        rwa [List.length_map] at this
    simp only [startM, Cam.d, List.map_cons, List.map_nil, List.length_cons, List.length_nil, Nat.reduceAdd, Nat.reduceSub, List.reduceReplicate, List.cons_append, List.nil_append]
    have hcomp : EV K (tLc (iU K (tVar 2)) (gName 4) tYes (tCallS (spF K R_is_star) (WE fun x x_1 x_2 x_3 => False) (tCons (tVar 1) (tCons (tVar 4) tNil))) [4])
        [Sl.ow (OD.ins cS []), Sl.im (D.int s.side), Sl.im x, Sl.im (D.tup [D.int s.cam.r, D.int s.cam.b, D.int s.cam.g, D.int s.cam.l]), Sl.un] (.fr ((s.kss.map (starK s.side)).map D.bl)) := by
      have ht : ∀ k ∈ s.kss, LcT K (gName 4) tYes (tCallS (spF K R_is_star) (WE fun x x_1 x_2 x_3 => False) (tCons (tVar 1) (tCons (tVar 4) tNil))) [4]
          [Sl.ow (OD.ins cS []), Sl.im (D.int s.side), Sl.im x, Sl.im (D.tup [D.int s.cam.r, D.int s.cam.b, D.int s.cam.g, D.int s.cam.l]), Sl.un] (tupD k) true (.bl (starK s.side k)) := fun k hk => by
        obtain ⟨a, b, c, rfl⟩ : ∃ a b c, k = [a, b, c] := by
          have := h3 k hk
          match k, this with
          | [a, b, c], _ => exact ⟨a, b, c, rfl⟩
        refine ⟨_, gw_name (by decide), tv_yes, fun _ => ⟨.st (.bl (starB s.side a b c)), ev_call (av_cons (ev_var rfl) (av_cons (ev_var rfl) av_nil)) (.cons .st (.cons .st .nil)) R_is_star_mk, .st⟩⟩
      have e : (s.kss.map (starK s.side)).map D.bl = (s.kss.filter fun _ => true).map fun k => D.bl (starK s.side k) := by
        rw [List.filter_eq_self.mpr (fun _ _ => rfl), List.map_map]; rfl
      rw [e]
      have hz : s.kss.length ≤ sizeLine := by rw [sizeLine_eq]; omega
      rcases hx with rfl | rfl
      · exact ev_lcL s.kss tupD (fun _ => true) _ (ev_var rfl) .st hz ht
      · exact ev_lcT s.kss tupD (fun _ => true) _ (ev_var rfl) hz ht
    refine sv_seq (sv_if (tv_or (by walk_at "dv") fun _ => tv_not (tv_truB (ev_call (by walk_at "dv") (by walk_at "dt") (R_is_camera_mk hc.1 hc.2)))) ?_ ?_)
    · intro h
      repeat (walk_at "sv")
      have e : s.ok = false := by unfold Sk.ok Cam.ok; rw [h]; rfl
      rw [e]
      exact ⟨rfl, rfl⟩
    intro c1
    refine sv_next (thn_nx (sv_seq (sv_if (tv_or (tv_test (ev_op (ev_cb (by walk_at "dv") hlen) (by walk_at "dv") (by walk_at "do"))) fun _ => tv_not (tv_truB (ev_cb (av_cons hcomp av_nil) (all_bls .fr)))) ?_ ?_)))
    · intro h
      repeat (walk_at "sv")
      have e : s.ok = false := by
        unfold Sk.ok Cam.ok
        rw [c1]
        rw [List.all_map] at h
        rw [show (decide (20 < (s.kss.length : Int)) || !s.kss.all (starK s.side)) = true from h]
        rfl
      rw [e]
      exact ⟨rfl, rfl⟩
    intro c2
    rw [List.all_map] at c2
    have c2' : (decide (20 < (s.kss.length : Int)) || !s.kss.all (starK s.side)) = false := c2
    have c3 : s.kss.length ≤ 20 := by
      rw [Bool.or_eq_false_iff, decide_eq_false_iff_not] at c2'
      omega
    refine sv_next (thn_nx (sv_seq (sv_if (tv_test (ev_op (ev_lenset (kss := s.kss) (ev_var rfl) ?_ (by omega)) (ev_cb (by walk_at "dv") hlen) ne_int)) ?_ ?_)))
    · rcases hx with rfl | rfl
      · exact .inl .st
      · exact .inr rfl
    · intro h
      repeat (walk_at "sv")
      have e : s.ok = false := by
        unfold Sk.ok Cam.ok
        rw [c1, c2']
        rw [Bool.not_eq_true'] at h
        rw [h]
        rfl
      rw [e]
      exact ⟨rfl, rfl⟩
    intro c4
    have e : s.ok = true := by
      unfold Sk.ok Cam.ok
      rw [c1, c2']
      rw [Bool.not_eq_false'] at c4
      rw [c4]
      rfl
    rw [e]
    have hk : Kss 3 s.kss := Sk.kss3 e h3
    have hsort : CbD K (rSortD K) [.st x] (.fr ((srt s.kss).map tupD)) := by
      rcases hx with rfl | rfl
      · exact sort_lst .st hk (by omega)
      · exact sort_tup hk (by omega)
    repeat (walk_at "sv")
    refine sv_fld (by walk_at "dv") (by walk_at "dt") rfl sk.cls sk.n1 (Nat.le_of_ble_eq_true rfl) (thn_nx (sv_seq ?_))
    refine sv_fld (ev_cb (av_cons (ev_cb (by walk_at "dv") hsort) av_nil) (tup_lst .fr)) (by walk_at "dt") rfl sk.cls sk.n2 (Nat.le_of_ble_eq_true rfl) (thn_nx ?_)
    refine sv_fld (by walk_at "dv") (by walk_at "dt") rfl sk.cls sk.n3 (Nat.le_of_ble_eq_true rfl) ?_
    exact ⟨rfl, rfl⟩
  · rintro fs ds r fs' ⟨s, x, rfl, rfl, hx, h3, hc, hl, rfl, rfl⟩
    rfl
end
end DL

set_option maxRecDepth 100000
set_option maxHeartbeats 4000000
namespace DL
open PySem L2
local macro_rules | `(tactic| walk_at "ds") => `(tactic| first | with_reducible assumption | exact eqok_tupD _ | exact eqok_kss _ | exact eqok3 | with_unfolding_all exact Eq.refl _ | exact Nat.le_of_ble_eq_true (Eq.refl true) | omega | decide | exact cdivW (by omega))
local macro_rules | `(tactic| walk_at "dv") => `(tactic| first
  | ((with_reducible show EV _ (tVar _) _ _); first | exact ev_var (by with_unfolding_all exact Eq.refl _) | exact ev_own (by with_unfolding_all exact Eq.refl _) | exact ev_ownI (by with_unfolding_all exact Eq.refl _))
  | ((with_reducible show EV _ (tC _) _ _); with_reducible first | exact ev_int | exact ev_str | exact ev_bl | exact ev_non)
  | ((with_reducible show EV _ (tOp _ _ _) _ _); exact ev_op (by walk_at "dv") (by walk_at "dv") (by walk_at "do"))
  | ((with_reducible show EV _ (tUn _ _) _ _); exact ev_un (by walk_at "dv") (by with_reducible exact neg_int))
  | ((with_reducible show EV _ (tChain _ _ _ _ _) _ _); exact ev_chain (by walk_at "dv") (by walk_at "dv") (by walk_at "do") (fun _ => by walk_at "dv") (fun _ => by walk_at "do"))
  | ((with_reducible show EV _ (tCB _ _) _ _); exact ev_cb (by walk_at "dv") (by walk_at "dc"))
  | ((with_reducible show EV _ (tAndV _ _) _ _); exact ev_andV (by walk_at "dv") (fun _ => by walk_at "dv"))
  | ((with_reducible show EV _ (tOrV _ _) _ _); exact ev_orV (by walk_at "dv") (fun _ => by walk_at "dv"))
  | ((with_reducible show EV _ (tNotV _) _ _); exact ev_notV (by walk_at "dv"))
  | ((with_reducible show EV _ (tIf _ _ _) _ _); exact ev_if (by walk_at "dv") (fun _ => by walk_at "dv") (fun _ => by walk_at "dv"))
  | ((with_reducible show EV _ (tSl _ _ _ _) _ _); exact ev_sl (by walk_at "dv") (by walk_at "dv") (by walk_at "dv") (by walk_at "dl"))
  | ((with_reducible show EV _ (tTup _) _ _); exact ev_tup (by walk_at "dv") (by walk_at "dt") (by walk_at "ds"))
  | ((with_reducible show EV _ (tLst _) _ _); exact ev_lst (by walk_at "dv") (by walk_at "dt") (by walk_at "ds"))
  | ((with_reducible show AV _ tNil _ _); exact av_nil)
  | ((with_reducible show AV _ (tCons _ _) _ _); exact av_cons (by walk_at "dv") (by walk_at "dv"))
  | ((with_reducible show OV _ tNoPart _ _); exact ov_none)
  | ((with_reducible show OV _ (tPart _) _ _); exact ov_some (by walk_at "dv"))
  | ((with_reducible show TV _ (tTest _) _ _); exact tv_test (by walk_at "dv"))
  | ((with_reducible show TV _ (tB _) _ _); exact tv_B (by walk_at "dv"))
  | ((with_reducible show TV _ (tNot _) _ _); exact tv_not (by walk_at "dv"))
  | ((with_reducible show TV _ (tAnd _ _) _ _); exact tv_and (by walk_at "dv") (fun _ => by walk_at "dv"))
  | ((with_reducible show TV _ (tOr _ _) _ _); exact tv_or (by walk_at "dv") (fun _ => by walk_at "dv"))
  | ((fail_if_success (with_reducible first | show TV _ (tTest _) _ _ | show TV _ (tB _) _ _ | show TV _ (tNot _) _ _ | show TV _ (tAnd _ _) _ _ | show TV _ (tOr _ _) _ _)); (with_reducible show TV _ _ _ _); exact tv_truB (by walk_at "dv"))
  | ((with_reducible show EV _ (tCallS _ _ _) _ _); exact ev_call (by walk_at "dv") (by walk_at "dt") (by walk_at "dr"))
  | ((with_reducible show EV _ (tFld _ _ _) _ _); exact ev_fld (by walk_at "dv") (by first | exact .st | exact .li | exact .fi) (by with_reducible assumption) (by with_reducible assumption) (by with_unfolding_all exact Eq.refl _))
  | ((with_reducible show EV _ (tProp _ _ _ _ _) _ _); exact ev_prop (by walk_at "dv") (by walk_at "dt") (by walk_at "dr"))
  | ((with_reducible show EV _ (tMethW _ _ _ _ _ _) _ _); exact ev_meth (by walk_at "dv") (by with_unfolding_all exact Eq.refl _) (by walk_at "dv") (by walk_at "dt") (by walk_at "dr")))
local macro_rules | `(tactic| walk_at "do") => `(tactic| with_reducible first
  | exact add_int | exact sub_int | exact lt_int | exact le_int | exact gt_int | exact ge_int
  | exact ix_lst .st (by assumption) | exact ix_lst .fr (by assumption) | exact ix_lst .ls (by assumption) | exact ix_tup (by assumption)
  | exact ix_tup (by with_unfolding_all exact Eq.refl _) | exact ix_lst .st (by with_unfolding_all exact Eq.refl _) | exact ix_lst .ls (by with_unfolding_all exact Eq.refl _) | exact ix_lst .fr (by with_unfolding_all exact Eq.refl _)
  | exact eq_int | exact ne_int | exact eq_strV | exact eq_str (by walk_at "ds") (by walk_at "ds") | exact ne_str (by walk_at "ds") (by walk_at "ds")
  | exact eq_dat .st .st (by walk_at "ds") (by walk_at "ds") | exact ne_dat .st .st (by walk_at "ds") (by walk_at "ds")
  | exact notin_lst .st .ls (by walk_at "ds") (by walk_at "ds") | exact in_lst .st .st (by walk_at "ds") (by walk_at "ds") | exact in_lst .st .ls (by walk_at "ds") (by walk_at "ds")
  | exact in_tup .st (by walk_at "ds") (by walk_at "ds")
  | exact mul_int (by walk_at "ds") | exact mod_int (by walk_at "ds") | exact fdiv_int (by walk_at "ds"))
local macro_rules | `(tactic| walk_at "dc") => `(tactic| with_reducible first
  | exact len_tup | exact len_lst .st | exact len_lst .ls | exact len_lst .fr
  | exact abs_int | exact max2_int | exact min2_int | exact min3_int | exact int_int | exact int_bl
  | exact list_tup | exact list_lst .st | exact list_lst .ls | exact list_lst .fr
  | exact all_bls .st | exact all_bls .ls | exact all_bls .fr)
local macro_rules | `(tactic| walk_at "dt") => `(tactic| first
  | ((with_reducible show Stb (Vd.st _) _); exact Stb.st)
  | ((with_reducible show Stb (Vd.fr _) _); exact Stb.fr)
  | ((with_reducible show Stb (Vd.fi _ _) _); exact Stb.fi)
  | ((with_reducible show Stbs [] _); with_reducible exact Stbs.nil)
  | ((with_reducible show Stbs (_ :: _) _); exact Stbs.cons (by walk_at "dt") (by walk_at "dt")))
local macro_rules | `(tactic| walk_at "dg") => `(tactic| first
  | ((with_reducible show GV _ gNil _ _ _); with_reducible exact gv_nil)
  | ((with_reducible show GV _ (gCons (gName _) _) (_ :: _) _ _); exact gv_cons (by walk_at "dg")))
local macro_rules | `(tactic| walk_at "sv") => `(tactic| first
  | with_reducible refine sv_seq ?_
  | with_reducible refine sv_next ?_
  | ((with_reducible show SV _ _ (tIfS _ _ _) _ _); refine sv_if (by walk_at "dv") ?_ ?_)
  | ((with_reducible show SV _ _ (tRet _) _ _); refine sv_retV (by walk_at "dv") (by walk_at "dt") ?_)
  | ((with_reducible show SV _ _ (tAsg _ (gTup _ _ _)) _ _); refine sv_tup (ee_of (by walk_at "dv") (by walk_at "dt")) (by rfl) (by walk_at "dg") ?_)
  | ((with_reducible show SV _ _ (tAsg _ (gName _)) _ _); refine sv_setV (by walk_at "dv") (by walk_at "dt") ?_)
  | ((with_reducible show SV _ _ (tPar _ _ _) _ _); refine sv_par (by walk_at "dv") (by walk_at "dt") ?_)
  | ((with_reducible show SV _ _ (tRaise0 _ _) _ _); refine sv_raise0 ?_)
  | ((with_reducible show SV _ _ (tRaise1 _ _ _ _) _ _); refine sv_raise1 (by walk_at "dv") (by walk_at "dt") ?_)
  | ((with_reducible refine thn_nx ?_); try dsimp only [List.set]))
local macro_rules | `(tactic| walk_at "sx") => `(tactic| first | (intro hx; exact absurd hx (by decide)) | (intro hx; exfalso; simp at hx))
local macro_rules | `(tactic| walk_at "bo") => `(tactic| (simp only [Bool.or_eq_true, Bool.not_eq_true', Bool.and_eq_false_iff, Bool.or_eq_false_iff, Bool.not_eq_false', decide_eq_false_iff_not, decide_eq_true_eq, Bool.and_eq_true, Bool.eq_false_iff, ne_eq, Bool.true_and, Bool.and_true] at * <;> omega))
section
variable {P : Program} {w : World} {K : Frag} {mg : Str → Option Value} {base : Heap} {cS cI cU cT cM : Addr}
theorem R_Sky_init_ok {s : Sk} {x : D} (hx : x = .lst (s.kss.map tupD) ∨ x = .tup (s.kss.map tupD)) (h3 : Len3 s.kss) (hc : s.cam.sm) (hl : s.kss.length < 2 ^ 20) (e : s.ok = true) : R_Sky_init cI [] [.int s.side, x, s.cam.d] (.ret .non) s.mk'.fs :=
  ⟨s, x, rfl, rfl, hx, h3, hc, hl, by rw [if_pos e], by rw [if_pos e]⟩
theorem R_Sky_init_no {s : Sk} {x : D} (hx : x = .lst (s.kss.map tupD) ∨ x = .tup (s.kss.map tupD)) (h3 : Len3 s.kss) (hc : s.cam.sm) (hl : s.kss.length < 2 ^ 20) (e : ¬ s.ok = true) : R_Sky_init cI [] [.int s.side, x, s.cam.d] (.exc cI none) [] :=
  ⟨s, x, rfl, rfl, hx, h3, hc, hl, by rw [if_neg e], by rw [if_neg e]⟩
/-- return Sky(..) -/
theorem sv_retSky {W : WX} {ρ : List Sl} {ta : TA} {Q : Oc → Prop} (s : Sk) (x : D) (ha : AV K ta ρ [.st (.int s.side), .st x, .st s.cam.d]) (hx : x = .lst (s.kss.map tupD) ∨ x = .tup (s.kss.map tupD)) (h3 : Len3 s.kss) (hc : s.cam.sm) (hl : s.kss.length < 2 ^ 20)
    (k : Q (if s.ok = true then .rt (.ins cS s.mk'.fs) ρ else .ex cI none ρ)) : SV K W (tRet (tMakeW cS (spM K cS (R_Sky_init cI)) (WE W) ta)) ρ Q := by
  by_cases e : s.ok = true
  · rw [if_pos e] at k
    exact sv_retV (ev_make ha (.cons .st (.cons .st (.cons .st .nil))) (R_Sky_init_ok hx h3 hc hl e)) .fi k
  · rw [if_neg e] at k
    exact sv_retX (xx_of (xv_make ha (.cons .st (.cons .st (.cons .st .nil))) (R_Sky_init_no hx h3 hc hl e))) k
/-- what a sky made of it gives -/
def skyR (cS cI : Addr) (s : Sk) : Res := if s.ok = true then .ret (.ins cS s.mk'.fs) else .exc cI none
theorem finF_sky {cS cI : Addr} {s : Sk} {ρ : List Sl} : FinF (skyR cS cI s) (if s.ok = true then .rt (.ins cS s.mk'.fs) ρ else .ex cI none ρ) := by
  unfold skyR
  by_cases e : s.ok = true
  · rw [if_pos e, if_pos e]; exact rfl
  · rw [if_neg e, if_neg e]; exact rfl

def R_Sky_side (cS : Addr) (ds : List D) (r : Res) : Prop := ∃ s : Sk, ds = [.ins cS s.fs] ∧ r = .ret (.int s.side)
def R_Sky_stars (cS : Addr) (ds : List D) (r : Res) : Prop := ∃ s : Sk, ds = [.ins cS s.fs] ∧ r = .ret (.tup (s.kss.map tupD))
def R_Sky_camera (cS : Addr) (ds : List D) (r : Res) : Prop := ∃ s : Sk, ds = [.ins cS s.fs] ∧ r = .ret s.cam.d
theorem f_Sky_side {f : Addr} {fd : FuncData} (F : Fun K "side" "Sky.side" s_Sky_side f fd) (sk : SkyC K cS) : FnOk P w K mg base (L2.CX P w) 1 f fd ["self"] (spF K (R_Sky_side cS)) := by
  obtain ⟨c0, n1, n2, n3⟩ := sk
  refine fnF F sc_Sky_side ?_ fun cdv A outer s H E hr => ?_
  rotate_left
  have tk : Takes (cx P w K mg base N_Sky_side "Sky.side" s_Sky_side f cdv A outer s H E) (wE E) := takes_of rfl rfl rfl rfl
  have po : PassesOwn (model (cx P w K mg base N_Sky_side "Sky.side" s_Sky_side f cdv A outer s H E).prog (cx P w K mg base N_Sky_side "Sky.side" s_Sky_side f cdv A outer s H E).w) (cx P w K mg base N_Sky_side "Sky.side" s_Sky_side f cdv A outer s H E).A (cx P w K mg base N_Sky_side "Sky.side" s_Sky_side f cdv A outer s H E).env (cx P w K mg base N_Sky_side "Sky.side" s_Sky_side f cdv A outer s H E).xe := passes_of (X := cx P w K mg base N_Sky_side "Sky.side" s_Sky_side f cdv A outer s H E) rfl
  have sc := sc_Sky_side
  refine ⟨_, (pss_one (ps_ret (pe_fld (pv 0) rfl))), ?_⟩
  try simp only [show (cx P w K mg base N_Sky_side "Sky.side" s_Sky_side f cdv A outer s H E).K = K from rfl, show (cx P w K mg base N_Sky_side "Sky.side" s_Sky_side f cdv A outer s H E).prog = P from rfl, show (cx P w K mg base N_Sky_side "Sky.side" s_Sky_side f cdv A outer s H E).w = w from rfl]
  clear tk po sc
  · rintro ds r ⟨s, rfl, rfl⟩
    simp only [start0, Sk.fs, List.map_cons, List.map_nil, List.length_cons, List.length_nil, Nat.reduceAdd, Nat.reduceSub, List.reduceReplicate, List.cons_append, List.nil_append]
    repeat (walk_at "sv")
    rfl
  · rintro ds r ⟨s, rfl, rfl⟩
    rfl
theorem f_Sky_stars {f : Addr} {fd : FuncData} (F : Fun K "stars" "Sky.stars" s_Sky_stars f fd) (sk : SkyC K cS) : FnOk P w K mg base (L2.CX P w) 1 f fd ["self"] (spF K (R_Sky_stars cS)) := by
  obtain ⟨c0, n1, n2, n3⟩ := sk
  refine fnF F sc_Sky_stars ?_ fun cdv A outer s H E hr => ?_
  rotate_left
  have tk : Takes (cx P w K mg base N_Sky_stars "Sky.stars" s_Sky_stars f cdv A outer s H E) (wE E) := takes_of rfl rfl rfl rfl
  have po : PassesOwn (model (cx P w K mg base N_Sky_stars "Sky.stars" s_Sky_stars f cdv A outer s H E).prog (cx P w K mg base N_Sky_stars "Sky.stars" s_Sky_stars f cdv A outer s H E).w) (cx P w K mg base N_Sky_stars "Sky.stars" s_Sky_stars f cdv A outer s H E).A (cx P w K mg base N_Sky_stars "Sky.stars" s_Sky_stars f cdv A outer s H E).env (cx P w K mg base N_Sky_stars "Sky.stars" s_Sky_stars f cdv A outer s H E).xe := passes_of (X := cx P w K mg base N_Sky_stars "Sky.stars" s_Sky_stars f cdv A outer s H E) rfl
  have sc := sc_Sky_stars
  refine ⟨_, (pss_one (ps_ret (pe_fld (pv 0) rfl))), ?_⟩
  try simp only [show (cx P w K mg base N_Sky_stars "Sky.stars" s_Sky_stars f cdv A outer s H E).K = K from rfl, show (cx P w K mg base N_Sky_stars "Sky.stars" s_Sky_stars f cdv A outer s H E).prog = P from rfl, show (cx P w K mg base N_Sky_stars "Sky.stars" s_Sky_stars f cdv A outer s H E).w = w from rfl]
  clear tk po sc
  · rintro ds r ⟨s, rfl, rfl⟩
    simp only [start0, Sk.fs, List.map_cons, List.map_nil, List.length_cons, List.length_nil, Nat.reduceAdd, Nat.reduceSub, List.reduceReplicate, List.cons_append, List.nil_append]
    repeat (walk_at "sv")
    rfl
  · rintro ds r ⟨s, rfl, rfl⟩
    rfl
theorem f_Sky_camera {f : Addr} {fd : FuncData} (F : Fun K "camera" "Sky.camera" s_Sky_camera f fd) (sk : SkyC K cS) : FnOk P w K mg base (L2.CX P w) 1 f fd ["self"] (spF K (R_Sky_camera cS)) := by
  obtain ⟨c0, n1, n2, n3⟩ := sk
  refine fnF F sc_Sky_camera ?_ fun cdv A outer s H E hr => ?_
  rotate_left
  have tk : Takes (cx P w K mg base N_Sky_camera "Sky.camera" s_Sky_camera f cdv A outer s H E) (wE E) := takes_of rfl rfl rfl rfl
  have po : PassesOwn (model (cx P w K mg base N_Sky_camera "Sky.camera" s_Sky_camera f cdv A outer s H E).prog (cx P w K mg base N_Sky_camera "Sky.camera" s_Sky_camera f cdv A outer s H E).w) (cx P w K mg base N_Sky_camera "Sky.camera" s_Sky_camera f cdv A outer s H E).A (cx P w K mg base N_Sky_camera "Sky.camera" s_Sky_camera f cdv A outer s H E).env (cx P w K mg base N_Sky_camera "Sky.camera" s_Sky_camera f cdv A outer s H E).xe := passes_of (X := cx P w K mg base N_Sky_camera "Sky.camera" s_Sky_camera f cdv A outer s H E) rfl
  have sc := sc_Sky_camera
  refine ⟨_, (pss_one (ps_ret (pe_fld (pv 0) rfl))), ?_⟩
  try simp only [show (cx P w K mg base N_Sky_camera "Sky.camera" s_Sky_camera f cdv A outer s H E).K = K from rfl, show (cx P w K mg base N_Sky_camera "Sky.camera" s_Sky_camera f cdv A outer s H E).prog = P from rfl, show (cx P w K mg base N_Sky_camera "Sky.camera" s_Sky_camera f cdv A outer s H E).w = w from rfl]
  clear tk po sc
  · rintro ds r ⟨s, rfl, rfl⟩
    simp only [start0, Sk.fs, List.map_cons, List.map_nil, List.length_cons, List.length_nil, Nat.reduceAdd, Nat.reduceSub, List.reduceReplicate, List.cons_append, List.nil_append]
    repeat (walk_at "sv")
    rfl
  · rintro ds r ⟨s, rfl, rfl⟩
    rfl
/-- the star of a number -/
def inB (n : Int) (l : Nat) : Bool := decide (0 ≤ n) && decide (n < (l : Int))
def R_star_at (cS cU : Addr) (ds : List D) (r : Res) : Prop := ∃ (s : Sk) (n : Int), ds = [.ins cS s.fs, .int n] ∧ r = if inB n s.kss.length = true then .ret (tupD (s.kss.getD n.toNat [])) else .exc cU (some [("number", .int n)])
theorem f_star_at {f : Addr} {fd : FuncData} (F : Fun K "star_at" "Sky.star_at" s_Sky_star_at f fd) (sk : SkyC K cS) (g_len : mg "len" = none) (e_UnknownStar : Ex1 P w K mg base 1 "UnknownStar" cU "number") : FnOk P w K mg base (L2.CX P w) 4 f fd ["self", "number"] (spF K (R_star_at cS cU)) := by
  obtain ⟨c0, n1, n2, n3⟩ := sk
  refine fnF F sc_Sky_star_at ?_ fun cdv A outer s H E hr => ?_
  rotate_left
  have tk : Takes (cx P w K mg base N_Sky_star_at "Sky.star_at" s_Sky_star_at f cdv A outer s H E) (wE E) := takes_of rfl rfl rfl rfl
  have po : PassesOwn (model (cx P w K mg base N_Sky_star_at "Sky.star_at" s_Sky_star_at f cdv A outer s H E).prog (cx P w K mg base N_Sky_star_at "Sky.star_at" s_Sky_star_at f cdv A outer s H E).w) (cx P w K mg base N_Sky_star_at "Sky.star_at" s_Sky_star_at f cdv A outer s H E).A (cx P w K mg base N_Sky_star_at "Sky.star_at" s_Sky_star_at f cdv A outer s H E).env (cx P w K mg base N_Sky_star_at "Sky.star_at" s_Sky_star_at f cdv A outer s H E).xe := passes_of (X := cx P w K mg base N_Sky_star_at "Sky.star_at" s_Sky_star_at f cdv A outer s H E) rfl
  have sc := sc_Sky_star_at
  refine ⟨_, (pss_cons (ps_if (pt_not (pt_chain op_le op_lt pe_int (pv 1) (pe_callB u_len (by rfl) g_len (by decide +kernel) (pa_cons (pe_fld (pv 0) rfl) pa_nil)))) (pss_one (u_raise1 e_UnknownStar rfl tk hr (by first | decide | omega) rfl (pa_cons (pv 1) pa_nil))) pss_nil)
    (pss_one (ps_ret (pe_ix ix_seq (pe_fld (pv 0) rfl) (pv 1) (fun _ _ => rfl))))), ?_⟩
  try simp only [show (cx P w K mg base N_Sky_star_at "Sky.star_at" s_Sky_star_at f cdv A outer s H E).K = K from rfl, show (cx P w K mg base N_Sky_star_at "Sky.star_at" s_Sky_star_at f cdv A outer s H E).prog = P from rfl, show (cx P w K mg base N_Sky_star_at "Sky.star_at" s_Sky_star_at f cdv A outer s H E).w = w from rfl]
  clear tk po sc
  · rintro ds r ⟨s, n, rfl, rfl⟩
    simp only [start0, Sk.fs, List.map_cons, List.map_nil, List.length_cons, List.length_nil, Nat.reduceAdd, Nat.reduceSub, List.reduceReplicate, List.cons_append, List.nil_append]
    repeat (walk_at "sv")
    · intro h
      repeat (walk_at "sv")
      have e : inB n s.kss.length = false := by
        rw [Bool.not_eq_true', List.length_map] at h
        exact h
      rw [e]
      rfl
    · intro h
      repeat (walk_at "sv")
      have e : inB n s.kss.length = true := by
        rw [Bool.not_eq_false', List.length_map] at h
        exact h
      have e2 := e
      unfold inB at e2
      simp only [Bool.and_eq_true, decide_eq_true_eq] at e2
      have hl : n.toNat < s.kss.length := by omega
      refine sv_retV (d := tupD (s.kss.getD n.toNat [])) (ev_op (by walk_at "dv") (by walk_at "dv") (ix_tup ?_)) .st ?_
      · exact atI_map tupD [] (by omega) (by omega)
      · rw [e]
        rfl
  · rintro ds r ⟨s, n, rfl, rfl⟩
    rfl

theorem R_star_at_ok {s : Sk} {n : Int} (h : inB n s.kss.length = true) : R_star_at cS cU [.ins cS s.fs, .int n] (.ret (tupD (s.kss.getD n.toNat []))) := ⟨s, n, rfl, by rw [if_pos h]⟩
theorem R_star_at_no {s : Sk} {n : Int} (h : ¬ inB n s.kss.length = true) : R_star_at cS cU [.ins cS s.fs, .int n] (.exc cU (some [("number", .int n)])) := ⟨s, n, rfl, by rw [if_neg h]⟩
/-- what holds of a sky that stands -/
structure Sk.good (s : Sk) : Prop where
  l3 : Len3 s.kss
  cs : s.cam.sm
  len : s.kss.length ≤ 1000
  pos : 0 < s.side
def withS (s : Sk) (k : List Int) : Sk := { s with kss := s.kss ++ [k] }
def R_with_star (cS cI cT : Addr) (ds : List D) (r : Res) : Prop := ∃ (s : Sk) (k : List Int), ds = [.ins cS s.fs, tupD k] ∧ k.length = 3 ∧ s.good ∧ r = if decide (k ∈ s.kss) = true then .exc cT (some [("star", tupD k)]) else skyR cS cI (withS s k)
theorem f_with_star {f : Addr} {fd : FuncData} (F : Fun K "with_star" "Sky.with_star" s_Sky_with_star f fd) (sk : SkyC K cS) (e_StarTaken : Ex1 P w K mg base 1 "StarTaken" cT "star") (c_Sky : ClsN P w K mg base 2 "Sky" cS (spM K cS (R_Sky_init cI))) : FnOk P w K mg base (L2.CX P w) 4 f fd ["self", "star"] (spF K (R_with_star cS cI cT)) := by
  obtain ⟨c0, n1, n2, n3⟩ := sk
  refine fnF F sc_Sky_with_star ?_ fun cdv A outer s H E hr => ?_
  rotate_left
  have tk : Takes (cx P w K mg base N_Sky_with_star "Sky.with_star" s_Sky_with_star f cdv A outer s H E) (wE E) := takes_of rfl rfl rfl rfl
  have po : PassesOwn (model (cx P w K mg base N_Sky_with_star "Sky.with_star" s_Sky_with_star f cdv A outer s H E).prog (cx P w K mg base N_Sky_with_star "Sky.with_star" s_Sky_with_star f cdv A outer s H E).w) (cx P w K mg base N_Sky_with_star "Sky.with_star" s_Sky_with_star f cdv A outer s H E).A (cx P w K mg base N_Sky_with_star "Sky.with_star" s_Sky_with_star f cdv A outer s H E).env (cx P w K mg base N_Sky_with_star "Sky.with_star" s_Sky_with_star f cdv A outer s H E).xe := passes_of (X := cx P w K mg base N_Sky_with_star "Sky.with_star" s_Sky_with_star f cdv A outer s H E) rfl
  have sc := sc_Sky_with_star
  refine ⟨_, (pss_cons (ps_if (pt_cmpR (u_in (u65 hr)) (pv 1) (pe_fld (pv 0) rfl) (by rfl)) (pss_one (u_raise1 e_StarTaken rfl tk hr (by first | decide | omega) rfl (pa_cons (pv 1) pa_nil))) pss_nil)
    (pss_one (ps_ret (u_make c_Sky tk hr (by first | decide | omega) rfl (pa_cons (pe_fld (pv 0) rfl) (pa_cons (pe_op u_add (pe_fld (pv 0) rfl) (pe_tup (pa_cons (pv 1) pa_nil))) (pa_cons (pe_fld (pv 0) rfl) pa_nil))))))), ?_⟩
  try simp only [show (cx P w K mg base N_Sky_with_star "Sky.with_star" s_Sky_with_star f cdv A outer s H E).K = K from rfl, show (cx P w K mg base N_Sky_with_star "Sky.with_star" s_Sky_with_star f cdv A outer s H E).prog = P from rfl, show (cx P w K mg base N_Sky_with_star "Sky.with_star" s_Sky_with_star f cdv A outer s H E).w = w from rfl]
  clear tk po sc
  · rintro ds r ⟨s, k, rfl, hk, hg, rfl⟩
    simp only [start0, Sk.fs, List.map_cons, List.map_nil, List.length_cons, List.length_nil, Nat.reduceAdd, Nat.reduceSub, List.reduceReplicate, List.cons_append, List.nil_append]
    repeat (walk_at "sv")
    · intro h
      rw [memD_tupD] at h
      repeat (walk_at "sv")
      rw [if_pos h]
      rfl
    · intro h
      rw [memD_tupD] at h
      rw [if_neg (by rw [h]; decide)]
      have hl := hg.len
      refine sv_next (thn_nx (sv_retSky (withS s k) (.tup ((s.kss ++ [k]).map tupD)) (av_cons (by walk_at "dv") (av_cons (ev_is (ev_op (by walk_at "dv") (by walk_at "dv") (add_tup (by rw [List.length_map, sizeLine_eq]; show _ + 1 ≤ _; omega))) (by rw [List.map_append]; rfl)) (av_cons (by walk_at "dv") av_nil))) (.inr rfl) ?_ hg.cs ?_ finF_sky))
      · intro z hz
        rcases List.mem_append.mp hz with hz | hz
        · exact hg.l3 z hz
        · rw [List.mem_singleton.mp hz]
          exact hk
      · show (s.kss ++ [k]).length < _
        rw [List.length_append]
        show _ + 1 < _
        omega
  · rintro ds r ⟨s, k, rfl, hk, hg, rfl⟩
    rfl
def withC (s : Sk) (c : Cam) : Sk := { s with cam := c }
def R_with_camera (cS cI : Addr) (ds : List D) (r : Res) : Prop := ∃ (s : Sk) (c : Cam), ds = [.ins cS s.fs, c.d] ∧ c.sm ∧ s.good ∧ r = skyR cS cI (withC s c)
theorem f_with_camera {f : Addr} {fd : FuncData} (F : Fun K "with_camera" "Sky.with_camera" s_Sky_with_camera f fd) (sk : SkyC K cS) (c_Sky : ClsN P w K mg base 2 "Sky" cS (spM K cS (R_Sky_init cI))) : FnOk P w K mg base (L2.CX P w) 4 f fd ["self", "camera"] (spF K (R_with_camera cS cI)) := by
  obtain ⟨c0, n1, n2, n3⟩ := sk
  refine fnF F sc_Sky_with_camera ?_ fun cdv A outer s H E hr => ?_
  rotate_left
  have tk : Takes (cx P w K mg base N_Sky_with_camera "Sky.with_camera" s_Sky_with_camera f cdv A outer s H E) (wE E) := takes_of rfl rfl rfl rfl
  have po : PassesOwn (model (cx P w K mg base N_Sky_with_camera "Sky.with_camera" s_Sky_with_camera f cdv A outer s H E).prog (cx P w K mg base N_Sky_with_camera "Sky.with_camera" s_Sky_with_camera f cdv A outer s H E).w) (cx P w K mg base N_Sky_with_camera "Sky.with_camera" s_Sky_with_camera f cdv A outer s H E).A (cx P w K mg base N_Sky_with_camera "Sky.with_camera" s_Sky_with_camera f cdv A outer s H E).env (cx P w K mg base N_Sky_with_camera "Sky.with_camera" s_Sky_with_camera f cdv A outer s H E).xe := passes_of (X := cx P w K mg base N_Sky_with_camera "Sky.with_camera" s_Sky_with_camera f cdv A outer s H E) rfl
  have sc := sc_Sky_with_camera
  refine ⟨_, (pss_one (ps_ret (u_make c_Sky tk hr (by first | decide | omega) rfl (pa_cons (pe_fld (pv 0) rfl) (pa_cons (pe_fld (pv 0) rfl) (pa_cons (pv 1) pa_nil)))))), ?_⟩
  try simp only [show (cx P w K mg base N_Sky_with_camera "Sky.with_camera" s_Sky_with_camera f cdv A outer s H E).K = K from rfl, show (cx P w K mg base N_Sky_with_camera "Sky.with_camera" s_Sky_with_camera f cdv A outer s H E).prog = P from rfl, show (cx P w K mg base N_Sky_with_camera "Sky.with_camera" s_Sky_with_camera f cdv A outer s H E).w = w from rfl]
  clear tk po sc
  · rintro ds r ⟨s, c, rfl, hc, hg, rfl⟩
    simp only [start0, Sk.fs, List.map_cons, List.map_nil, List.length_cons, List.length_nil, Nat.reduceAdd, Nat.reduceSub, List.reduceReplicate, List.cons_append, List.nil_append]
    have hl := hg.len
    exact sv_retSky (withC s c) (.tup (s.kss.map tupD)) (av_cons (by walk_at "dv") (av_cons (by walk_at "dv") (av_cons (by walk_at "dv") av_nil))) (.inr rfl) hg.l3 hc (by show s.kss.length < _; omega) finF_sky
  · rintro ds r ⟨s, c, rfl, hc, hg, rfl⟩
    rfl
def dropS (s : Sk) (n : Nat) : Sk := { s with kss := s.kss.take n ++ s.kss.drop (n + 1) }
def R_without_star (cS cI cU : Addr) (ds : List D) (r : Res) : Prop := ∃ (s : Sk) (n : Int), ds = [.ins cS s.fs, .int n] ∧ s.good ∧ r = if inB n s.kss.length = true then skyR cS cI (dropS s n.toNat) else .exc cU (some [("number", .int n)])
theorem f_without_star {f : Addr} {fd : FuncData} (F : Fun K "without_star" "Sky.without_star" s_Sky_without_star f fd) (sk : SkyC K cS) (c_Sky : ClsN P w K mg base 2 "Sky" cS (spM K cS (R_Sky_init cI))) (m_Sky_star_at : MthN P w K mg base 4 cS "star_at" (spF K (R_star_at cS cU))) : FnOk P w K mg base (L2.CX P w) 5 f fd ["self", "number"] (spF K (R_without_star cS cI cU)) := by
  obtain ⟨c0, n1, n2, n3⟩ := sk
  refine fnF F sc_Sky_without_star ?_ fun cdv A outer s H E hr => ?_
  rotate_left
  have tk : Takes (cx P w K mg base N_Sky_without_star "Sky.without_star" s_Sky_without_star f cdv A outer s H E) (wE E) := takes_of rfl rfl rfl rfl
  have po : PassesOwn (model (cx P w K mg base N_Sky_without_star "Sky.without_star" s_Sky_without_star f cdv A outer s H E).prog (cx P w K mg base N_Sky_without_star "Sky.without_star" s_Sky_without_star f cdv A outer s H E).w) (cx P w K mg base N_Sky_without_star "Sky.without_star" s_Sky_without_star f cdv A outer s H E).A (cx P w K mg base N_Sky_without_star "Sky.without_star" s_Sky_without_star f cdv A outer s H E).env (cx P w K mg base N_Sky_without_star "Sky.without_star" s_Sky_without_star f cdv A outer s H E).xe := passes_of (X := cx P w K mg base N_Sky_without_star "Sky.without_star" s_Sky_without_star f cdv A outer s H E) rfl
  have sc := sc_Sky_without_star
  refine ⟨_, (pss_cons (ps_expr (u_meth m_Sky_star_at tk hr (by first | decide | omega) (pv 0) (pa_cons (pv 1) pa_nil)))
    (pss_one (ps_ret (u_make c_Sky tk hr (by first | decide | omega) rfl (pa_cons (pe_fld (pv 0) rfl) (pa_cons (pe_op u_add (pe_slice u_sl (pe_fld (pv 0) rfl) po_none (po_some (pv 1))) (pe_slice u_sl (pe_fld (pv 0) rfl) (po_some (pe_op u_add (pv 1) pe_int)) po_none)) (pa_cons (pe_fld (pv 0) rfl) pa_nil))))))), ?_⟩
  try simp only [show (cx P w K mg base N_Sky_without_star "Sky.without_star" s_Sky_without_star f cdv A outer s H E).K = K from rfl, show (cx P w K mg base N_Sky_without_star "Sky.without_star" s_Sky_without_star f cdv A outer s H E).prog = P from rfl, show (cx P w K mg base N_Sky_without_star "Sky.without_star" s_Sky_without_star f cdv A outer s H E).w = w from rfl]
  clear tk po sc
  · rintro ds r ⟨s, n, rfl, hg, rfl⟩
    have hl := hg.len
    by_cases hb : inB n s.kss.length = true
    · rw [if_pos hb]
      have e2 := hb
      unfold inB at e2
      simp only [Bool.and_eq_true, decide_eq_true_eq] at e2
      obtain ⟨m, rfl⟩ : ∃ m : Nat, n = m := ⟨n.toNat, by omega⟩
      have hm : m < s.kss.length := by omega
      have hm2 : m < (s.kss.map tupD).length := by rw [List.length_map]; exact hm
      refine sv_seq (sv_drop (ee_of (ev_meth (ev_var rfl) rfl (av_cons (ev_var rfl) av_nil) (.cons .st .nil) (R_star_at_ok hb)) .st) (thn_nx ?_))
      simp only [start0, Sk.fs, List.map_cons, List.map_nil, List.length_cons, List.length_nil, Nat.reduceAdd, Nat.reduceSub, List.reduceReplicate, List.cons_append, List.nil_append]
      refine sv_retSky (dropS s m) (.tup ((s.kss.take m ++ s.kss.drop (m + 1)).map tupD)) (av_cons (by walk_at "dv") (av_cons (ev_is (ev_op (ev_sl (by walk_at "dv") ov_none (ov_some (by walk_at "dv")) (sl_pre hm2)) (ev_sl (by walk_at "dv") (ov_some (ev_op (by walk_at "dv") (by walk_at "dv") add_int)) ov_none (sl_suf (k := m + 1) (Nat.succ_pos _) hm2)) (add_tup ?_)) ?_) (av_cons (by walk_at "dv") av_nil))) (.inr rfl) ?_ hg.cs ?_ finF_sky
      · rw [List.length_take, List.length_drop, List.length_map, sizeLine_eq]
        omega
      · rw [List.map_append, List.map_take, List.map_drop]
      · intro z hz
        rcases List.mem_append.mp hz with hz | hz
        · exact hg.l3 z (List.mem_of_mem_take hz)
        · exact hg.l3 z (List.mem_of_mem_drop hz)
      · show (s.kss.take m ++ s.kss.drop (m + 1)).length < _
        rw [List.length_append, List.length_take, List.length_drop]
        omega
    · rw [if_neg hb]
      exact sv_seq (sv_dropX (xx_of (xv_meth (ev_var rfl) rfl (av_cons (ev_var rfl) av_nil) (.cons .st .nil) (R_star_at_no hb))) rfl)
  · rintro ds r ⟨s, n, rfl, hg, rfl⟩
    rfl
def movK (side a b q : Int) : List Int → List Int
  | [x, y, c] => movP side x y a b q ++ [c]
  | k => k
def movS (s : Sk) (a b q : Int) : Sk := { s with kss := s.kss.map (movK s.side a b q) }
def R_moved (cS cI cM : Addr) (ds : List D) (r : Res) : Prop := ∃ (s : Sk) (a b q : Int), ds = [.ins cS s.fs, tupD [a, b, q]] ∧ s.good ∧ r = if motB s.side a b q = true then skyR cS cI (movS s a b q) else .exc cM (some [("motion", tupD [a, b, q])])
theorem f_moved {f : Addr} {fd : FuncData} (F : Fun K "moved" "Sky.moved" s_Sky_moved f fd) (sk : SkyC K cS) (c_Sky : ClsN P w K mg base 2 "Sky" cS (spM K cS (R_Sky_init cI))) (e_InvalidMotion : Ex1 P w K mg base 1 "InvalidMotion" cM "motion") (h_is_motion : DefN P w K mg base 1 "is_motion" (spF K R_is_motion)) (h_moved_place : DefN P w K mg base 1 "moved_place" (spF K R_moved_place)) : FnOk P w K mg base (L2.CX P w) 4 f fd ["self", "motion"] (spF K (R_moved cS cI cM)) := by
  obtain ⟨c0, n1, n2, n3⟩ := sk
  refine fnF F sc_Sky_moved ?_ fun cdv A outer s H E hr => ?_
  rotate_left
  have tk : Takes (cx P w K mg base N_Sky_moved "Sky.moved" s_Sky_moved f cdv A outer s H E) (wE E) := takes_of rfl rfl rfl rfl
  have po : PassesOwn (model (cx P w K mg base N_Sky_moved "Sky.moved" s_Sky_moved f cdv A outer s H E).prog (cx P w K mg base N_Sky_moved "Sky.moved" s_Sky_moved f cdv A outer s H E).w) (cx P w K mg base N_Sky_moved "Sky.moved" s_Sky_moved f cdv A outer s H E).A (cx P w K mg base N_Sky_moved "Sky.moved" s_Sky_moved f cdv A outer s H E).env (cx P w K mg base N_Sky_moved "Sky.moved" s_Sky_moved f cdv A outer s H E).xe := passes_of (X := cx P w K mg base N_Sky_moved "Sky.moved" s_Sky_moved f cdv A outer s H E) rfl
  have sc := sc_Sky_moved
  refine ⟨_, (pss_cons (ps_if (pt_not (pt_truth (u_call h_is_motion tk hr (by first | decide | omega) rfl (pa_cons (pe_fld (pv 0) rfl) (pa_cons (pv 1) pa_nil))) (by intro _; rfl))) (pss_one (u_raise1 e_InvalidMotion rfl tk hr (by first | decide | omega) rfl (pa_cons (pv 1) pa_nil))) pss_nil)
    (pss_cons (ps_setLc (i := 2) (own := [("star", 3)]) (g := gName 3) (tt := _) rfl sc.nd rfl rfl (sw_true rfl rfl rfl (by decide +kernel)) (pi_U (pe_fld (pv 0) rfl)) (blkOk_by (N := N_Sky_moved) (sc := defScope s_Sky_moved) (by decide +kernel)) (fun _ _ _ _ _ => (pg_name (i := 3) sc.nd rfl (Or.inl rfl))) (fun _ _ _ _ _ => pts_nil) (fun _ _ _ _ _ => (pe_op (u_addK K) (u_call h_moved_place takes0 hr (by first | decide | omega) rfl (pa_cons (pe_fldK K (pv 0) rfl) (pa_cons (pe_slice (u_slK K) (pv 3) po_none (po_some pe_int)) (pa_cons (pv 1) pa_nil)))) (pe_slice (u_slK K) (pv 3) (po_some pe_int) po_none))))
    (pss_one (ps_ret (u_make c_Sky tk hr (by first | decide | omega) rfl (pa_cons (pe_fld (pv 0) rfl) (pa_cons (pv 2) (pa_cons (pe_fld (pv 0) rfl) pa_nil)))))))), ?_⟩
  try simp only [show (cx P w K mg base N_Sky_moved "Sky.moved" s_Sky_moved f cdv A outer s H E).K = K from rfl, show (cx P w K mg base N_Sky_moved "Sky.moved" s_Sky_moved f cdv A outer s H E).prog = P from rfl, show (cx P w K mg base N_Sky_moved "Sky.moved" s_Sky_moved f cdv A outer s H E).w = w from rfl]
  clear tk po sc
  · rintro ds r ⟨s, a, b, q, rfl, hg, rfl⟩
    simp only [start0, tupD, Sk.fs, List.map_cons, List.map_nil, List.length_cons, List.length_nil, Nat.reduceAdd, Nat.reduceSub, List.reduceReplicate, List.cons_append, List.nil_append]
    have hl := hg.len
    have hp := hg.pos
    refine sv_seq (sv_if (tv_not (tv_truB (ev_call (by walk_at "dv") (by walk_at "dt") R_is_motion_mk))) ?_ ?_)
    · intro h
      rw [Bool.not_eq_true'] at h
      repeat (walk_at "sv")
      rw [h]
      rfl
    · intro h
      rw [Bool.not_eq_false'] at h
      rw [if_pos h]
      refine sv_next (thn_nx (sv_seq ?_))
      have h2 := h
      unfold motB at h2
      simp only [Bool.and_eq_true, decide_eq_true_eq] at h2
      have hz : s.kss.length ≤ sizeLine := by rw [sizeLine_eq]; omega
      have e : (s.kss.filter fun _ => true).map (fun k => tupD (movK s.side a b q k)) = (movS s a b q).kss.map tupD := by
        rw [List.filter_eq_self.mpr (fun _ _ => rfl)]
        unfold movS
        rw [List.map_map]
        rfl
      refine sv_setV (ev_is (ev_lcT s.kss tupD (fun _ => true) (fun k => tupD (movK s.side a b q k)) (by walk_at "dv") hz fun k hk => ?_) (congrArg Vd.fr e)) .fr (thn_nx ?_)
      · obtain ⟨x, y, c, rfl⟩ : ∃ x y c, k = [x, y, c] := by
          have := hg.l3 k hk
          match k, this with
          | [a, b, c], _ => exact ⟨a, b, c, rfl⟩
        have h1 : EV K (tCallS (spF K R_moved_place) (WE fun x x_1 x_2 x_3 => False) (tCons (tFld K (tVar 0) (Str.ofString "_side")) (tCons (tSl (rSlU K) (tVar 3) tNoPart (tPart (tC (V.int 2)))) (tCons (tVar 1) tNil))))
            [Sl.im (D.ins cS [(Str.ofString "_side", D.int s.side), (Str.ofString "_stars", D.tup (List.map tupD s.kss)), (Str.ofString "_camera", s.cam.d)]), Sl.im (D.tup [D.int a, D.int b, D.int q]), Sl.un, Sl.im (tupD [x, y, c])] (.st (.tup ((movP s.side x y a b q).map D.int))) :=
          ev_call (ds := [.int s.side, .tup [.int x, .int y], .tup [.int a, .int b, .int q]]) (av_cons (by walk_at "dv") (av_cons (ev_sl (x := .st (.tup [.int x, .int y, .int c])) (ev_var rfl) ov_none (ov_some ev_int) (sl_pre (k := 2) (Nat.le_of_ble_eq_true rfl))) (av_cons (by walk_at "dv") av_nil))) (.cons .st (.cons .st (.cons .st .nil))) (R_moved_place_mk hp h2.2.2.1 h2.2.2.2)
        have h2 : EV K (tSl (rSlU K) (tVar 3) (tPart (tC (V.int 2))) tNoPart)
            [Sl.im (D.ins cS [(Str.ofString "_side", D.int s.side), (Str.ofString "_stars", D.tup (List.map tupD s.kss)), (Str.ofString "_camera", s.cam.d)]), Sl.im (D.tup [D.int a, D.int b, D.int q]), Sl.un, Sl.im (tupD [x, y, c])] (.st (.tup [.int c])) :=
          ev_sl (x := .st (.tup [.int x, .int y, .int c])) (ev_var rfl) (ov_some ev_int) ov_none (sl_suf (k := 2) (Nat.le_of_ble_eq_true rfl) (Nat.le_of_ble_eq_true rfl))
        refine ⟨_, gw_name (by decide), tv_yes, fun _ => ⟨_, ev_op h1 h2 (add_tup (by rw [sizeLine_eq]; exact Nat.le_of_ble_eq_true rfl)), ?_⟩⟩
        exact .st
      · dsimp only [List.set]
        refine sv_retSky (movS s a b q) (.lst ((movS s a b q).kss.map tupD)) (av_cons (by walk_at "dv") (av_cons (by walk_at "dv") (av_cons (by walk_at "dv") av_nil))) (.inl rfl) ?_ hg.cs ?_ finF_sky
        · intro z hz
          obtain ⟨k, hk, rfl⟩ := List.mem_map.mp hz
          obtain ⟨x, y, c, rfl⟩ : ∃ x y c, k = [x, y, c] := by
            have := hg.l3 k hk
            match k, this with
            | [a, b, c], _ => exact ⟨a, b, c, rfl⟩
          rfl
        · show (s.kss.map (movK s.side a b q)).length < _
          rw [List.length_map]
          omega
  · rintro ds r ⟨s, a, b, q, rfl, hg, rfl⟩
    rfl
end
end DL

set_option maxRecDepth 100000
set_option maxHeartbeats 400000
namespace DL
open PySem L2
local macro_rules | `(tactic| walk_at "ds") => `(tactic| first | with_reducible assumption | exact eqok_tupD _ | exact eqok_kss _ | exact eqok3 | with_unfolding_all exact Eq.refl _ | exact Nat.le_of_ble_eq_true (Eq.refl true) | omega | decide | exact cdivW (by omega))
local macro_rules | `(tactic| walk_at "dv") => `(tactic| first
  | ((with_reducible show EV _ (tVar _) _ _); first | exact ev_var (by with_unfolding_all exact Eq.refl _) | exact ev_own (by with_unfolding_all exact Eq.refl _) | exact ev_ownI (by with_unfolding_all exact Eq.refl _))
  | ((with_reducible show EV _ (tC _) _ _); with_reducible first | exact ev_int | exact ev_str | exact ev_bl | exact ev_non)
  | ((with_reducible show EV _ (tOp _ _ _) _ _); exact ev_op (by walk_at "dv") (by walk_at "dv") (by walk_at "do"))
  | ((with_reducible show EV _ (tUn _ _) _ _); exact ev_un (by walk_at "dv") (by with_reducible exact neg_int))
  | ((with_reducible show EV _ (tChain _ _ _ _ _) _ _); exact ev_chain (by walk_at "dv") (by walk_at "dv") (by walk_at "do") (fun _ => by walk_at "dv") (fun _ => by walk_at "do"))
  | ((with_reducible show EV _ (tCB _ _) _ _); exact ev_cb (by walk_at "dv") (by walk_at "dc"))
  | ((with_reducible show EV _ (tAndV _ _) _ _); exact ev_andV (by walk_at "dv") (fun _ => by walk_at "dv"))
  | ((with_reducible show EV _ (tOrV _ _) _ _); exact ev_orV (by walk_at "dv") (fun _ => by walk_at "dv"))
  | ((with_reducible show EV _ (tNotV _) _ _); exact ev_notV (by walk_at "dv"))
  | ((with_reducible show EV _ (tIf _ _ _) _ _); exact ev_if (by walk_at "dv") (fun _ => by walk_at "dv") (fun _ => by walk_at "dv"))
  | ((with_reducible show EV _ (tSl _ _ _ _) _ _); exact ev_sl (by walk_at "dv") (by walk_at "dv") (by walk_at "dv") (by walk_at "dl"))
  | ((with_reducible show EV _ (tTup _) _ _); exact ev_tup (by walk_at "dv") (by walk_at "dt") (by walk_at "ds"))
  | ((with_reducible show EV _ (tLst _) _ _); exact ev_lst (by walk_at "dv") (by walk_at "dt") (by walk_at "ds"))
  | ((with_reducible show AV _ tNil _ _); exact av_nil)
  | ((with_reducible show AV _ (tCons _ _) _ _); exact av_cons (by walk_at "dv") (by walk_at "dv"))
  | ((with_reducible show OV _ tNoPart _ _); exact ov_none)
  | ((with_reducible show OV _ (tPart _) _ _); exact ov_some (by walk_at "dv"))
  | ((with_reducible show TV _ (tTest _) _ _); exact tv_test (by walk_at "dv"))
  | ((with_reducible show TV _ (tB _) _ _); exact tv_B (by walk_at "dv"))
  | ((with_reducible show TV _ (tNot _) _ _); exact tv_not (by walk_at "dv"))
  | ((with_reducible show TV _ (tAnd _ _) _ _); exact tv_and (by walk_at "dv") (fun _ => by walk_at "dv"))
  | ((with_reducible show TV _ (tOr _ _) _ _); exact tv_or (by walk_at "dv") (fun _ => by walk_at "dv"))
  | ((fail_if_success (with_reducible first | show TV _ (tTest _) _ _ | show TV _ (tB _) _ _ | show TV _ (tNot _) _ _ | show TV _ (tAnd _ _) _ _ | show TV _ (tOr _ _) _ _)); (with_reducible show TV _ _ _ _); exact tv_truB (by walk_at "dv"))
  | ((with_reducible show EV _ (tCallS _ _ _) _ _); exact ev_call (by walk_at "dv") (by walk_at "dt") (by walk_at "dr"))
  | ((with_reducible show EV _ (tFld _ _ _) _ _); exact ev_fld (by walk_at "dv") (by first | exact .st | exact .li | exact .fi) (by with_reducible assumption) (by with_reducible assumption) (by with_unfolding_all exact Eq.refl _))
  | ((with_reducible show EV _ (tProp _ _ _ _ _) _ _); exact ev_prop (by walk_at "dv") (by walk_at "dt") (by walk_at "dr"))
  | ((with_reducible show EV _ (tMethW _ _ _ _ _ _) _ _); exact ev_meth (by walk_at "dv") (by with_unfolding_all exact Eq.refl _) (by walk_at "dv") (by walk_at "dt") (by walk_at "dr")))
local macro_rules | `(tactic| walk_at "do") => `(tactic| with_reducible first
  | exact add_int | exact sub_int | exact lt_int | exact le_int | exact gt_int | exact ge_int
  | exact ix_lst .st (by assumption) | exact ix_lst .fr (by assumption) | exact ix_lst .ls (by assumption) | exact ix_tup (by assumption)
  | exact ix_tup (by with_unfolding_all exact Eq.refl _) | exact ix_lst .st (by with_unfolding_all exact Eq.refl _) | exact ix_lst .ls (by with_unfolding_all exact Eq.refl _) | exact ix_lst .fr (by with_unfolding_all exact Eq.refl _)
  | exact eq_int | exact ne_int | exact eq_strV | exact eq_str (by walk_at "ds") (by walk_at "ds") | exact ne_str (by walk_at "ds") (by walk_at "ds")
  | exact eq_dat .st .st (by walk_at "ds") (by walk_at "ds") | exact ne_dat .st .st (by walk_at "ds") (by walk_at "ds")
  | exact notin_lst .st .ls (by walk_at "ds") (by walk_at "ds") | exact in_lst .st .st (by walk_at "ds") (by walk_at "ds") | exact in_lst .st .ls (by walk_at "ds") (by walk_at "ds")
  | exact in_tup .st (by walk_at "ds") (by walk_at "ds")
  | exact mul_int (by walk_at "ds") | exact mod_int (by walk_at "ds") | exact fdiv_int (by walk_at "ds"))
local macro_rules | `(tactic| walk_at "dc") => `(tactic| with_reducible first
  | exact len_tup | exact len_lst .st | exact len_lst .ls | exact len_lst .fr
  | exact abs_int | exact max2_int | exact min2_int | exact min3_int | exact int_int | exact int_bl
  | exact list_tup | exact list_lst .st | exact list_lst .ls | exact list_lst .fr
  | exact all_bls .st | exact all_bls .ls | exact all_bls .fr)
local macro_rules | `(tactic| walk_at "dt") => `(tactic| first
  | ((with_reducible show Stb (Vd.st _) _); exact Stb.st)
  | ((with_reducible show Stb (Vd.fr _) _); exact Stb.fr)
  | ((with_reducible show Stb (Vd.fi _ _) _); exact Stb.fi)
  | ((with_reducible show Stbs [] _); with_reducible exact Stbs.nil)
  | ((with_reducible show Stbs (_ :: _) _); exact Stbs.cons (by walk_at "dt") (by walk_at "dt")))
local macro_rules | `(tactic| walk_at "dg") => `(tactic| first
  | ((with_reducible show GV _ gNil _ _ _); with_reducible exact gv_nil)
  | ((with_reducible show GV _ (gCons (gName _) _) (_ :: _) _ _); exact gv_cons (by walk_at "dg")))
local macro_rules | `(tactic| walk_at "sv") => `(tactic| first
  | with_reducible refine sv_seq ?_
  | with_reducible refine sv_next ?_
  | ((with_reducible show SV _ _ (tIfS _ _ _) _ _); refine sv_if (by walk_at "dv") ?_ ?_)
  | ((with_reducible show SV _ _ (tRet _) _ _); refine sv_retV (by walk_at "dv") (by walk_at "dt") ?_)
  | ((with_reducible show SV _ _ (tAsg _ (gTup _ _ _)) _ _); refine sv_tup (ee_of (by walk_at "dv") (by walk_at "dt")) (by rfl) (by walk_at "dg") ?_)
  | ((with_reducible show SV _ _ (tAsg _ (gName _)) _ _); refine sv_setV (by walk_at "dv") (by walk_at "dt") ?_)
  | ((with_reducible show SV _ _ (tPar _ _ _) _ _); refine sv_par (by walk_at "dv") (by walk_at "dt") ?_)
  | ((with_reducible show SV _ _ (tRaise0 _ _) _ _); refine sv_raise0 ?_)
  | ((with_reducible show SV _ _ (tRaise1 _ _ _ _) _ _); refine sv_raise1 (by walk_at "dv") (by walk_at "dt") ?_)
  | ((with_reducible refine thn_nx ?_); try dsimp only [List.set]))
local macro_rules | `(tactic| walk_at "sx") => `(tactic| first | (intro hx; exact absurd hx (by decide)) | (intro hx; exfalso; simp at hx))
local macro_rules | `(tactic| walk_at "bo") => `(tactic| (simp only [Bool.or_eq_true, Bool.not_eq_true', Bool.and_eq_false_iff, Bool.or_eq_false_iff, Bool.not_eq_false', decide_eq_false_iff_not, decide_eq_true_eq, Bool.and_eq_true, Bool.eq_false_iff, ne_eq, Bool.true_and, Bool.and_true] at * <;> omega))
section
variable {P : Program} {w : World} {K : Frag} {mg : Str → Option Value} {base : Heap} {cS cI cU cT cM cD cNU cNR : Addr}
structure DeskC (K : Frag) (C : Addr) : Prop where
  cls : Cls K C
  n1 : NoAttr K C "state"
  n2 : NoAttr K C "past"
  n3 : NoAttr K C "future"
  n4 : NoAttr K C "blocks"
  n5 : NoAttr K C "known"
def skD (cS : Addr) (s : Sk) : D := .ins cS s.fs
/-- a plain desk -/
structure Dk where
  st : Sk
  past : List Sk
  fut : List Sk
  bl : D
def Dk.fs (cS : Addr) (d : Dk) : List (Str × D) := [("state", skD cS d.st), ("past", .tup (d.past.map (skD cS))), ("future", .tup (d.fut.map (skD cS))), ("blocks", d.bl), ("known", .any)]
def Dk.push (d : Dk) (s : Sk) : Dk := ⟨s, d.past ++ [d.st], [], d.bl⟩
def R_Desk_init (cS : Addr) (fs : List (Str × D)) (ds : List D) (r : Res) (fs' : List (Str × D)) : Prop := ∃ s : Sk, fs = [] ∧ ds = [skD cS s] ∧ r = .ret .non ∧ fs' = Dk.fs cS ⟨s, [], [], .tup []⟩
theorem f_Desk_init {f : Addr} {fd : FuncData} (F : Fun K "__init__" "Desk.__init__" s_Desk___init__ f fd) (dk : DeskC K cD) : FnOk P w K mg base (L2.CX P w) 1 f fd ["self", "sky"] (spM K cD (R_Desk_init cS)) := by
  obtain ⟨c0, n1, n2, n3, n4, n5⟩ := dk
  refine fnM F sc_Desk___init__ ?_ fun cdv A outer s H E hr => ?_
  rotate_left
  have tk : Takes (cx P w K mg base N_Desk___init__ "Desk.__init__" s_Desk___init__ f cdv A outer s H E) (wE E) := takes_of rfl rfl rfl rfl
  have po : PassesOwn (model (cx P w K mg base N_Desk___init__ "Desk.__init__" s_Desk___init__ f cdv A outer s H E).prog (cx P w K mg base N_Desk___init__ "Desk.__init__" s_Desk___init__ f cdv A outer s H E).w) (cx P w K mg base N_Desk___init__ "Desk.__init__" s_Desk___init__ f cdv A outer s H E).A (cx P w K mg base N_Desk___init__ "Desk.__init__" s_Desk___init__ f cdv A outer s H E).env (cx P w K mg base N_Desk___init__ "Desk.__init__" s_Desk___init__ f cdv A outer s H E).xe := passes_of (X := cx P w K mg base N_Desk___init__ "Desk.__init__" s_Desk___init__ f cdv A outer s H E) rfl
  have sc := sc_Desk___init__
  refine ⟨_, (pss_cons (ps_fld (pv 0) (pv 1) rfl)
    (pss_cons (ps_fld (pv 0) (pe_tup pa_nil) rfl)
    (pss_cons (ps_fld (pv 0) (pe_tup pa_nil) rfl)
    (pss_cons (ps_fld (pv 0) (pe_tup pa_nil) rfl)
    (pss_one (ps_fld (pv 0) pe_dnewK rfl)))))), ?_⟩
  try simp only [show (cx P w K mg base N_Desk___init__ "Desk.__init__" s_Desk___init__ f cdv A outer s H E).K = K from rfl, show (cx P w K mg base N_Desk___init__ "Desk.__init__" s_Desk___init__ f cdv A outer s H E).prog = P from rfl, show (cx P w K mg base N_Desk___init__ "Desk.__init__" s_Desk___init__ f cdv A outer s H E).w = w from rfl]
  clear tk po sc
  · rintro fs ds r fs' ⟨s, rfl, rfl, rfl, rfl⟩
    simp only [startM, List.map_cons, List.map_nil, List.length_cons, List.length_nil, Nat.reduceAdd, Nat.reduceSub, List.reduceReplicate, List.cons_append, List.nil_append]
    refine sv_seq (sv_fld (by walk_at "dv") (by walk_at "dt") rfl c0 n1 (Nat.le_of_ble_eq_true rfl) (thn_nx (sv_seq ?_)))
    refine sv_fld (by walk_at "dv") (by walk_at "dt") rfl c0 n2 (Nat.le_of_ble_eq_true rfl) (thn_nx (sv_seq ?_))
    refine sv_fld (by walk_at "dv") (by walk_at "dt") rfl c0 n3 (Nat.le_of_ble_eq_true rfl) (thn_nx (sv_seq ?_))
    refine sv_fld (by walk_at "dv") (by walk_at "dt") rfl c0 n4 (Nat.le_of_ble_eq_true rfl) (thn_nx ?_)
    refine sv_fld ev_dnew (by walk_at "dt") rfl c0 n5 (Nat.le_of_ble_eq_true rfl) ?_
    exact ⟨rfl, rfl⟩
  · rintro fs ds r fs' ⟨s, rfl, rfl, rfl, rfl⟩
    rfl
def R_sky_now (cS : Addr) (fs : List (Str × D)) (ds : List D) (r : Res) (fs' : List (Str × D)) : Prop := ∃ d : Dk, fs = d.fs cS ∧ ds = [] ∧ r = .ret (skD cS d.st) ∧ fs' = d.fs cS
theorem f_sky_now {f : Addr} {fd : FuncData} (F : Fun K "sky_now" "Desk.sky_now" s_Desk_sky_now f fd) (dk : DeskC K cD) : FnOk P w K mg base (L2.CX P w) 1 f fd ["self"] (spM K cD (R_sky_now cS)) := by
  obtain ⟨c0, n1, n2, n3, n4, n5⟩ := dk
  refine fnM F sc_Desk_sky_now ?_ fun cdv A outer s H E hr => ?_
  rotate_left
  have tk : Takes (cx P w K mg base N_Desk_sky_now "Desk.sky_now" s_Desk_sky_now f cdv A outer s H E) (wE E) := takes_of rfl rfl rfl rfl
  have po : PassesOwn (model (cx P w K mg base N_Desk_sky_now "Desk.sky_now" s_Desk_sky_now f cdv A outer s H E).prog (cx P w K mg base N_Desk_sky_now "Desk.sky_now" s_Desk_sky_now f cdv A outer s H E).w) (cx P w K mg base N_Desk_sky_now "Desk.sky_now" s_Desk_sky_now f cdv A outer s H E).A (cx P w K mg base N_Desk_sky_now "Desk.sky_now" s_Desk_sky_now f cdv A outer s H E).env (cx P w K mg base N_Desk_sky_now "Desk.sky_now" s_Desk_sky_now f cdv A outer s H E).xe := passes_of (X := cx P w K mg base N_Desk_sky_now "Desk.sky_now" s_Desk_sky_now f cdv A outer s H E) rfl
  have sc := sc_Desk_sky_now
  refine ⟨_, (pss_one (ps_ret (pe_fld (pv 0) rfl))), ?_⟩
  try simp only [show (cx P w K mg base N_Desk_sky_now "Desk.sky_now" s_Desk_sky_now f cdv A outer s H E).K = K from rfl, show (cx P w K mg base N_Desk_sky_now "Desk.sky_now" s_Desk_sky_now f cdv A outer s H E).prog = P from rfl, show (cx P w K mg base N_Desk_sky_now "Desk.sky_now" s_Desk_sky_now f cdv A outer s H E).w = w from rfl]
  clear tk po sc
  · rintro fs ds r fs' ⟨s, rfl, rfl, rfl, rfl⟩
    simp only [startM, Dk.fs, List.map_cons, List.map_nil, List.length_cons, List.length_nil, Nat.reduceAdd, Nat.reduceSub, List.reduceReplicate, List.cons_append, List.nil_append]
    repeat (walk_at "sv")
    exact ⟨rfl, rfl⟩
  · rintro fs ds r fs' ⟨s, rfl, rfl, rfl, rfl⟩
    rfl
def R_change_to (cS : Addr) (fs : List (Str × D)) (ds : List D) (r : Res) (fs' : List (Str × D)) : Prop := ∃ (d : Dk) (s : Sk), fs = d.fs cS ∧ ds = [skD cS s] ∧ d.past.length ≤ 1000 ∧ r = .ret .non ∧ fs' = (d.push s).fs cS
theorem f_change_to {f : Addr} {fd : FuncData} (F : Fun K "change_to" "Desk.change_to" s_Desk_change_to f fd) (dk : DeskC K cD) : FnOk P w K mg base (L2.CX P w) 1 f fd ["self", "sky"] (spM K cD (R_change_to cS)) := by
  obtain ⟨c0, n1, n2, n3, n4, n5⟩ := dk
  refine fnM F sc_Desk_change_to ?_ fun cdv A outer s H E hr => ?_
  rotate_left
  have tk : Takes (cx P w K mg base N_Desk_change_to "Desk.change_to" s_Desk_change_to f cdv A outer s H E) (wE E) := takes_of rfl rfl rfl rfl
  have po : PassesOwn (model (cx P w K mg base N_Desk_change_to "Desk.change_to" s_Desk_change_to f cdv A outer s H E).prog (cx P w K mg base N_Desk_change_to "Desk.change_to" s_Desk_change_to f cdv A outer s H E).w) (cx P w K mg base N_Desk_change_to "Desk.change_to" s_Desk_change_to f cdv A outer s H E).A (cx P w K mg base N_Desk_change_to "Desk.change_to" s_Desk_change_to f cdv A outer s H E).env (cx P w K mg base N_Desk_change_to "Desk.change_to" s_Desk_change_to f cdv A outer s H E).xe := passes_of (X := cx P w K mg base N_Desk_change_to "Desk.change_to" s_Desk_change_to f cdv A outer s H E) rfl
  have sc := sc_Desk_change_to
  refine ⟨_, (pss_cons (ps_fld (pv 0) (pe_op u_add (pe_fld (pv 0) rfl) (pe_tup (pa_cons (pe_fld (pv 0) rfl) pa_nil))) rfl)
    (pss_cons (ps_fld (pv 0) (pe_tup pa_nil) rfl)
    (pss_one (ps_fld (pv 0) (pv 1) rfl)))), ?_⟩
  try simp only [show (cx P w K mg base N_Desk_change_to "Desk.change_to" s_Desk_change_to f cdv A outer s H E).K = K from rfl, show (cx P w K mg base N_Desk_change_to "Desk.change_to" s_Desk_change_to f cdv A outer s H E).prog = P from rfl, show (cx P w K mg base N_Desk_change_to "Desk.change_to" s_Desk_change_to f cdv A outer s H E).w = w from rfl]
  clear tk po sc
  · rintro fs ds r fs' ⟨d, s, rfl, rfl, hl, rfl, rfl⟩
    simp only [startM, Dk.fs, List.map_cons, List.map_nil, List.length_cons, List.length_nil, Nat.reduceAdd, Nat.reduceSub, List.reduceReplicate, List.cons_append, List.nil_append]
    have e : d.past.map (skD cS) ++ [skD cS d.st] = (d.push s).past.map (skD cS) := by
      unfold Dk.push
      rw [List.map_append]; rfl
    refine sv_seq (sv_fld (ev_is (ev_op (by walk_at "dv") (by walk_at "dv") (add_tup (by rw [List.length_map, sizeLine_eq]; show _ + 1 ≤ _; omega))) (congrArg (fun z => Vd.st (.tup z)) e)) (by walk_at "dt") rfl c0 n2 (Nat.le_of_ble_eq_true rfl) (thn_nx (sv_seq ?_)))
    refine sv_fld (by walk_at "dv") (by walk_at "dt") rfl c0 n3 (Nat.le_of_ble_eq_true rfl) (thn_nx ?_)
    refine sv_fld (by walk_at "dv") (by walk_at "dt") rfl c0 n1 (Nat.le_of_ble_eq_true rfl) ?_
    exact ⟨rfl, rfl⟩
  · rintro fs ds r fs' ⟨d, s, rfl, rfl, hl, rfl, rfl⟩
    rfl
/-- a change made by a way of the sky's: RS -/
def R_chg (cS : Addr) (RS : List D → Res → Prop) (fs : List (Str × D)) (ds : List D) (r : Res) (fs' : List (Str × D)) : Prop := ∃ (d : Dk) (a : D) (r0 : Res), fs = d.fs cS ∧ ds = [a] ∧ d.past.length ≤ 1000 ∧ RS [skD cS d.st, a] r0 ∧
  ((∃ s', r0 = .ret (skD cS s') ∧ r = .ret .non ∧ fs' = (d.push s').fs cS) ∨ ∃ C fx, r0 = .exc C fx ∧ r = .exc C fx ∧ fs' = d.fs cS)
theorem f_put_star {f : Addr} {fd : FuncData} (F : Fun K "put_star" "Desk.put_star" s_Desk_put_star f fd) (dk : DeskC K cD) (m_Desk_change_to : MthN P w K mg base 1 cD "change_to" (spM K cD (R_change_to cS))) (m_Sky_with_star : MthN P w K mg base 4 cS "with_star" (spF K (R_with_star cS cI cT))) : FnOk P w K mg base (L2.CX P w) 5 f fd ["self", "star"] (spM K cD (R_chg cS (R_with_star cS cI cT))) := by
  obtain ⟨c0, n1, n2, n3, n4, n5⟩ := dk
  refine fnM F sc_Desk_put_star ?_ fun cdv A outer s H E hr => ?_
  rotate_left
  have tk : Takes (cx P w K mg base N_Desk_put_star "Desk.put_star" s_Desk_put_star f cdv A outer s H E) (wE E) := takes_of rfl rfl rfl rfl
  have po : PassesOwn (model (cx P w K mg base N_Desk_put_star "Desk.put_star" s_Desk_put_star f cdv A outer s H E).prog (cx P w K mg base N_Desk_put_star "Desk.put_star" s_Desk_put_star f cdv A outer s H E).w) (cx P w K mg base N_Desk_put_star "Desk.put_star" s_Desk_put_star f cdv A outer s H E).A (cx P w K mg base N_Desk_put_star "Desk.put_star" s_Desk_put_star f cdv A outer s H E).env (cx P w K mg base N_Desk_put_star "Desk.put_star" s_Desk_put_star f cdv A outer s H E).xe := passes_of (X := cx P w K mg base N_Desk_put_star "Desk.put_star" s_Desk_put_star f cdv A outer s H E) rfl
  have sc := sc_Desk_put_star
  refine ⟨_, (pss_one (ps_expr (u_meth m_Desk_change_to tk hr (by first | decide | omega) (pv 0) (pa_cons (u_meth m_Sky_with_star tk hr (by first | decide | omega) (pe_fld (pv 0) rfl) (pa_cons (pv 1) pa_nil)) pa_nil)))), ?_⟩
  try simp only [show (cx P w K mg base N_Desk_put_star "Desk.put_star" s_Desk_put_star f cdv A outer s H E).K = K from rfl, show (cx P w K mg base N_Desk_put_star "Desk.put_star" s_Desk_put_star f cdv A outer s H E).prog = P from rfl, show (cx P w K mg base N_Desk_put_star "Desk.put_star" s_Desk_put_star f cdv A outer s H E).w = w from rfl]
  clear tk po sc
  · rintro fs ds r fs' ⟨d, a, r0, rfl, rfl, hl, h0, h1⟩
    have es : ∀ ρ : List Sl, ρ[0]? = some (Sl.ow (.ins cD (d.fs cS))) → EV K (tFld K (tVar 0) (Str.ofString "state")) ρ (.st (.ins cS d.st.fs)) := fun ρ h => ev_fld (ev_ownI h) .li c0 n1 rfl
    rcases h1 with ⟨s', rfl, rfl, rfl⟩ | ⟨C, fx, rfl, rfl, rfl⟩
    · exact sv_drop (ee_methO rfl rfl (av_cons (ev_meth (es _ rfl) rfl (av_cons (ev_var rfl) av_nil) (.cons .st .nil) h0) av_nil) (.cons .st .nil) ⟨d, s', rfl, rfl, hl, rfl, rfl⟩) ⟨rfl, rfl⟩
    · exact sv_dropX (xx_methO_arg rfl rfl (xa_head (xv_meth (es _ rfl) rfl (av_cons (ev_var rfl) av_nil) (.cons .st .nil) h0))) ⟨rfl, rfl⟩
  · rintro fs ds r fs' ⟨d, a, r0, rfl, rfl, hl, h0, h1⟩
    rfl
theorem f_drop_star {f : Addr} {fd : FuncData} (F : Fun K "drop_star" "Desk.drop_star" s_Desk_drop_star f fd) (dk : DeskC K cD) (m_Desk_change_to : MthN P w K mg base 1 cD "change_to" (spM K cD (R_change_to cS))) (m_Sky_without_star : MthN P w K mg base 5 cS "without_star" (spF K (R_without_star cS cI cU))) : FnOk P w K mg base (L2.CX P w) 6 f fd ["self", "number"] (spM K cD (R_chg cS (R_without_star cS cI cU))) := by
  obtain ⟨c0, n1, n2, n3, n4, n5⟩ := dk
  refine fnM F sc_Desk_drop_star ?_ fun cdv A outer s H E hr => ?_
  rotate_left
  have tk : Takes (cx P w K mg base N_Desk_drop_star "Desk.drop_star" s_Desk_drop_star f cdv A outer s H E) (wE E) := takes_of rfl rfl rfl rfl
  have po : PassesOwn (model (cx P w K mg base N_Desk_drop_star "Desk.drop_star" s_Desk_drop_star f cdv A outer s H E).prog (cx P w K mg base N_Desk_drop_star "Desk.drop_star" s_Desk_drop_star f cdv A outer s H E).w) (cx P w K mg base N_Desk_drop_star "Desk.drop_star" s_Desk_drop_star f cdv A outer s H E).A (cx P w K mg base N_Desk_drop_star "Desk.drop_star" s_Desk_drop_star f cdv A outer s H E).env (cx P w K mg base N_Desk_drop_star "Desk.drop_star" s_Desk_drop_star f cdv A outer s H E).xe := passes_of (X := cx P w K mg base N_Desk_drop_star "Desk.drop_star" s_Desk_drop_star f cdv A outer s H E) rfl
  have sc := sc_Desk_drop_star
  refine ⟨_, (pss_one (ps_expr (u_meth m_Desk_change_to tk hr (by first | decide | omega) (pv 0) (pa_cons (u_meth m_Sky_without_star tk hr (by first | decide | omega) (pe_fld (pv 0) rfl) (pa_cons (pv 1) pa_nil)) pa_nil)))), ?_⟩
  try simp only [show (cx P w K mg base N_Desk_drop_star "Desk.drop_star" s_Desk_drop_star f cdv A outer s H E).K = K from rfl, show (cx P w K mg base N_Desk_drop_star "Desk.drop_star" s_Desk_drop_star f cdv A outer s H E).prog = P from rfl, show (cx P w K mg base N_Desk_drop_star "Desk.drop_star" s_Desk_drop_star f cdv A outer s H E).w = w from rfl]
  clear tk po sc
  · rintro fs ds r fs' ⟨d, a, r0, rfl, rfl, hl, h0, h1⟩
    have es : ∀ ρ : List Sl, ρ[0]? = some (Sl.ow (.ins cD (d.fs cS))) → EV K (tFld K (tVar 0) (Str.ofString "state")) ρ (.st (.ins cS d.st.fs)) := fun ρ h => ev_fld (ev_ownI h) .li c0 n1 rfl
    rcases h1 with ⟨s', rfl, rfl, rfl⟩ | ⟨C, fx, rfl, rfl, rfl⟩
    · exact sv_drop (ee_methO rfl rfl (av_cons (ev_meth (es _ rfl) rfl (av_cons (ev_var rfl) av_nil) (.cons .st .nil) h0) av_nil) (.cons .st .nil) ⟨d, s', rfl, rfl, hl, rfl, rfl⟩) ⟨rfl, rfl⟩
    · exact sv_dropX (xx_methO_arg rfl rfl (xa_head (xv_meth (es _ rfl) rfl (av_cons (ev_var rfl) av_nil) (.cons .st .nil) h0))) ⟨rfl, rfl⟩
  · rintro fs ds r fs' ⟨d, a, r0, rfl, rfl, hl, h0, h1⟩
    rfl
theorem f_set_camera {f : Addr} {fd : FuncData} (F : Fun K "set_camera" "Desk.set_camera" s_Desk_set_camera f fd) (dk : DeskC K cD) (m_Desk_change_to : MthN P w K mg base 1 cD "change_to" (spM K cD (R_change_to cS))) (m_Sky_with_camera : MthN P w K mg base 4 cS "with_camera" (spF K (R_with_camera cS cI))) : FnOk P w K mg base (L2.CX P w) 5 f fd ["self", "camera"] (spM K cD (R_chg cS (R_with_camera cS cI))) := by
  obtain ⟨c0, n1, n2, n3, n4, n5⟩ := dk
  refine fnM F sc_Desk_set_camera ?_ fun cdv A outer s H E hr => ?_
  rotate_left
  have tk : Takes (cx P w K mg base N_Desk_set_camera "Desk.set_camera" s_Desk_set_camera f cdv A outer s H E) (wE E) := takes_of rfl rfl rfl rfl
  have po : PassesOwn (model (cx P w K mg base N_Desk_set_camera "Desk.set_camera" s_Desk_set_camera f cdv A outer s H E).prog (cx P w K mg base N_Desk_set_camera "Desk.set_camera" s_Desk_set_camera f cdv A outer s H E).w) (cx P w K mg base N_Desk_set_camera "Desk.set_camera" s_Desk_set_camera f cdv A outer s H E).A (cx P w K mg base N_Desk_set_camera "Desk.set_camera" s_Desk_set_camera f cdv A outer s H E).env (cx P w K mg base N_Desk_set_camera "Desk.set_camera" s_Desk_set_camera f cdv A outer s H E).xe := passes_of (X := cx P w K mg base N_Desk_set_camera "Desk.set_camera" s_Desk_set_camera f cdv A outer s H E) rfl
  have sc := sc_Desk_set_camera
  refine ⟨_, (pss_one (ps_expr (u_meth m_Desk_change_to tk hr (by first | decide | omega) (pv 0) (pa_cons (u_meth m_Sky_with_camera tk hr (by first | decide | omega) (pe_fld (pv 0) rfl) (pa_cons (pv 1) pa_nil)) pa_nil)))), ?_⟩
  try simp only [show (cx P w K mg base N_Desk_set_camera "Desk.set_camera" s_Desk_set_camera f cdv A outer s H E).K = K from rfl, show (cx P w K mg base N_Desk_set_camera "Desk.set_camera" s_Desk_set_camera f cdv A outer s H E).prog = P from rfl, show (cx P w K mg base N_Desk_set_camera "Desk.set_camera" s_Desk_set_camera f cdv A outer s H E).w = w from rfl]
  clear tk po sc
  · rintro fs ds r fs' ⟨d, a, r0, rfl, rfl, hl, h0, h1⟩
    have es : ∀ ρ : List Sl, ρ[0]? = some (Sl.ow (.ins cD (d.fs cS))) → EV K (tFld K (tVar 0) (Str.ofString "state")) ρ (.st (.ins cS d.st.fs)) := fun ρ h => ev_fld (ev_ownI h) .li c0 n1 rfl
    rcases h1 with ⟨s', rfl, rfl, rfl⟩ | ⟨C, fx, rfl, rfl, rfl⟩
    · exact sv_drop (ee_methO rfl rfl (av_cons (ev_meth (es _ rfl) rfl (av_cons (ev_var rfl) av_nil) (.cons .st .nil) h0) av_nil) (.cons .st .nil) ⟨d, s', rfl, rfl, hl, rfl, rfl⟩) ⟨rfl, rfl⟩
    · exact sv_dropX (xx_methO_arg rfl rfl (xa_head (xv_meth (es _ rfl) rfl (av_cons (ev_var rfl) av_nil) (.cons .st .nil) h0))) ⟨rfl, rfl⟩
  · rintro fs ds r fs' ⟨d, a, r0, rfl, rfl, hl, h0, h1⟩
    rfl
theorem f_move_sky {f : Addr} {fd : FuncData} (F : Fun K "move_sky" "Desk.move_sky" s_Desk_move_sky f fd) (dk : DeskC K cD) (m_Desk_change_to : MthN P w K mg base 1 cD "change_to" (spM K cD (R_change_to cS))) (m_Sky_moved : MthN P w K mg base 4 cS "moved" (spF K (R_moved cS cI cM))) : FnOk P w K mg base (L2.CX P w) 5 f fd ["self", "motion"] (spM K cD (R_chg cS (R_moved cS cI cM))) := by
  obtain ⟨c0, n1, n2, n3, n4, n5⟩ := dk
  refine fnM F sc_Desk_move_sky ?_ fun cdv A outer s H E hr => ?_
  rotate_left
  have tk : Takes (cx P w K mg base N_Desk_move_sky "Desk.move_sky" s_Desk_move_sky f cdv A outer s H E) (wE E) := takes_of rfl rfl rfl rfl
  have po : PassesOwn (model (cx P w K mg base N_Desk_move_sky "Desk.move_sky" s_Desk_move_sky f cdv A outer s H E).prog (cx P w K mg base N_Desk_move_sky "Desk.move_sky" s_Desk_move_sky f cdv A outer s H E).w) (cx P w K mg base N_Desk_move_sky "Desk.move_sky" s_Desk_move_sky f cdv A outer s H E).A (cx P w K mg base N_Desk_move_sky "Desk.move_sky" s_Desk_move_sky f cdv A outer s H E).env (cx P w K mg base N_Desk_move_sky "Desk.move_sky" s_Desk_move_sky f cdv A outer s H E).xe := passes_of (X := cx P w K mg base N_Desk_move_sky "Desk.move_sky" s_Desk_move_sky f cdv A outer s H E) rfl
  have sc := sc_Desk_move_sky
  refine ⟨_, (pss_one (ps_expr (u_meth m_Desk_change_to tk hr (by first | decide | omega) (pv 0) (pa_cons (u_meth m_Sky_moved tk hr (by first | decide | omega) (pe_fld (pv 0) rfl) (pa_cons (pv 1) pa_nil)) pa_nil)))), ?_⟩
  try simp only [show (cx P w K mg base N_Desk_move_sky "Desk.move_sky" s_Desk_move_sky f cdv A outer s H E).K = K from rfl, show (cx P w K mg base N_Desk_move_sky "Desk.move_sky" s_Desk_move_sky f cdv A outer s H E).prog = P from rfl, show (cx P w K mg base N_Desk_move_sky "Desk.move_sky" s_Desk_move_sky f cdv A outer s H E).w = w from rfl]
  clear tk po sc
  · rintro fs ds r fs' ⟨d, a, r0, rfl, rfl, hl, h0, h1⟩
    have es : ∀ ρ : List Sl, ρ[0]? = some (Sl.ow (.ins cD (d.fs cS))) → EV K (tFld K (tVar 0) (Str.ofString "state")) ρ (.st (.ins cS d.st.fs)) := fun ρ h => ev_fld (ev_ownI h) .li c0 n1 rfl
    rcases h1 with ⟨s', rfl, rfl, rfl⟩ | ⟨C, fx, rfl, rfl, rfl⟩
    · exact sv_drop (ee_methO rfl rfl (av_cons (ev_meth (es _ rfl) rfl (av_cons (ev_var rfl) av_nil) (.cons .st .nil) h0) av_nil) (.cons .st .nil) ⟨d, s', rfl, rfl, hl, rfl, rfl⟩) ⟨rfl, rfl⟩
    · exact sv_dropX (xx_methO_arg rfl rfl (xa_head (xv_meth (es _ rfl) rfl (av_cons (ev_var rfl) av_nil) (.cons .st .nil) h0))) ⟨rfl, rfl⟩
  · rintro fs ds r fs' ⟨d, a, r0, rfl, rfl, hl, h0, h1⟩
    rfl
/-- undo, redo -/
def R_undo (cS cNU : Addr) (fs : List (Str × D)) (ds : List D) (r : Res) (fs' : List (Str × D)) : Prop := ∃ d : Dk, fs = d.fs cS ∧ ds = [] ∧ d.fut.length ≤ 1000 ∧
  ((d.past = [] ∧ r = .exc cNU none ∧ fs' = d.fs cS) ∨ ∃ ps s', d.past = ps ++ [s'] ∧ r = .ret .non ∧ fs' = Dk.fs cS ⟨s', ps, d.st :: d.fut, d.bl⟩)
theorem f_undo {f : Addr} {fd : FuncData} (F : Fun K "undo" "Desk.undo" s_Desk_undo f fd) (dk : DeskC K cD) (g_len : mg "len" = none) (e_NothingToUndo : Ex0 K mg "NothingToUndo" cNU) : FnOk P w K mg base (L2.CX P w) 1 f fd ["self"] (spM K cD (R_undo cS cNU)) := by
  obtain ⟨c0, n1, n2, n3, n4, n5⟩ := dk
  refine fnM F sc_Desk_undo ?_ fun cdv A outer s H E hr => ?_
  rotate_left
  have tk : Takes (cx P w K mg base N_Desk_undo "Desk.undo" s_Desk_undo f cdv A outer s H E) (wE E) := takes_of rfl rfl rfl rfl
  have po : PassesOwn (model (cx P w K mg base N_Desk_undo "Desk.undo" s_Desk_undo f cdv A outer s H E).prog (cx P w K mg base N_Desk_undo "Desk.undo" s_Desk_undo f cdv A outer s H E).w) (cx P w K mg base N_Desk_undo "Desk.undo" s_Desk_undo f cdv A outer s H E).A (cx P w K mg base N_Desk_undo "Desk.undo" s_Desk_undo f cdv A outer s H E).env (cx P w K mg base N_Desk_undo "Desk.undo" s_Desk_undo f cdv A outer s H E).xe := passes_of (X := cx P w K mg base N_Desk_undo "Desk.undo" s_Desk_undo f cdv A outer s H E) rfl
  have sc := sc_Desk_undo
  refine ⟨_, (pss_cons (ps_if (pt_cmpR (op_eqD hr.units) (pe_callB u_len (by rfl) g_len (by decide +kernel) (pa_cons (pe_fld (pv 0) rfl) pa_nil)) pe_int (nomark _)) (pss_one (u_raise0 e_NothingToUndo rfl tk rfl)) pss_nil)
    (pss_cons (ps_fld (pv 0) (pe_op u_add (pe_tup (pa_cons (pe_fld (pv 0) rfl) pa_nil)) (pe_fld (pv 0) rfl)) rfl)
    (pss_cons (ps_fld (pv 0) (pe_ix ix_seq (pe_fld (pv 0) rfl) (pe_un un_neg pe_int) (fun _ _ => rfl)) rfl)
    (pss_one (ps_fld (pv 0) (pe_slice u_sl (pe_fld (pv 0) rfl) po_none (po_some (pe_un un_neg pe_int))) rfl))))), ?_⟩
  try simp only [show (cx P w K mg base N_Desk_undo "Desk.undo" s_Desk_undo f cdv A outer s H E).K = K from rfl, show (cx P w K mg base N_Desk_undo "Desk.undo" s_Desk_undo f cdv A outer s H E).prog = P from rfl, show (cx P w K mg base N_Desk_undo "Desk.undo" s_Desk_undo f cdv A outer s H E).w = w from rfl]
  clear tk po sc
  · rintro fs ds r fs' ⟨d, rfl, rfl, hl, h1⟩
    simp only [startM, Dk.fs, List.map_cons, List.map_nil, List.length_cons, List.length_nil, Nat.reduceAdd, Nat.reduceSub, List.reduceReplicate, List.cons_append, List.nil_append]
    repeat (walk_at "sv")
    · intro h
      repeat (walk_at "sv")
      rw [List.length_map, decide_eq_true_eq] at h
      rcases h1 with ⟨h1, rfl, rfl⟩ | ⟨ps, s', h1, rfl, rfl⟩
      · exact ⟨rfl, rfl⟩
      · rw [h1, List.length_append] at h
        simp at h
        omega
    · intro h
      rw [List.length_map, decide_eq_false_iff_not] at h
      rcases h1 with ⟨h1, rfl, rfl⟩ | ⟨ps, s', h1, rfl, rfl⟩
      · exact absurd (by rw [h1]; rfl) h
      · have e : d.past.map (skD cS) = ps.map (skD cS) ++ [skD cS s'] := by rw [h1, List.map_append]; rfl
        rw [e]
        refine sv_next (thn_nx (sv_seq (sv_fld (ev_op (by walk_at "dv") (by walk_at "dv") (add_tup (by rw [List.length_map, sizeLine_eq]; show 1 + _ ≤ _; omega))) (by walk_at "dt") rfl c0 n3 (Nat.le_of_ble_eq_true rfl) (thn_nx (sv_seq ?_)))))
        refine sv_fld (ev_op (by walk_at "dv") (by walk_at "dv") (ix_tup atI_last)) (by walk_at "dt") rfl c0 n1 (Nat.le_of_ble_eq_true rfl) (thn_nx ?_)
        refine sv_fld (ev_sl (by walk_at "dv") ov_none (ov_some (i := -1) (ev_un ev_int neg_int)) sl_init) (by walk_at "dt") rfl c0 n2 (Nat.le_of_ble_eq_true rfl) ?_
        exact ⟨rfl, rfl⟩
  · rintro fs ds r fs' ⟨d, rfl, rfl, hl, h1⟩
    rfl
def R_redo (cS cNR : Addr) (fs : List (Str × D)) (ds : List D) (r : Res) (fs' : List (Str × D)) : Prop := ∃ d : Dk, fs = d.fs cS ∧ ds = [] ∧ d.past.length ≤ 1000 ∧
  ((d.fut = [] ∧ r = .exc cNR none ∧ fs' = d.fs cS) ∨ ∃ s' ps, d.fut = s' :: ps ∧ r = .ret .non ∧ fs' = Dk.fs cS ⟨s', d.past ++ [d.st], ps, d.bl⟩)
theorem f_redo {f : Addr} {fd : FuncData} (F : Fun K "redo" "Desk.redo" s_Desk_redo f fd) (dk : DeskC K cD) (g_len : mg "len" = none) (e_NothingToRedo : Ex0 K mg "NothingToRedo" cNR) : FnOk P w K mg base (L2.CX P w) 1 f fd ["self"] (spM K cD (R_redo cS cNR)) := by
  obtain ⟨c0, n1, n2, n3, n4, n5⟩ := dk
  refine fnM F sc_Desk_redo ?_ fun cdv A outer s H E hr => ?_
  rotate_left
  have tk : Takes (cx P w K mg base N_Desk_redo "Desk.redo" s_Desk_redo f cdv A outer s H E) (wE E) := takes_of rfl rfl rfl rfl
  have po : PassesOwn (model (cx P w K mg base N_Desk_redo "Desk.redo" s_Desk_redo f cdv A outer s H E).prog (cx P w K mg base N_Desk_redo "Desk.redo" s_Desk_redo f cdv A outer s H E).w) (cx P w K mg base N_Desk_redo "Desk.redo" s_Desk_redo f cdv A outer s H E).A (cx P w K mg base N_Desk_redo "Desk.redo" s_Desk_redo f cdv A outer s H E).env (cx P w K mg base N_Desk_redo "Desk.redo" s_Desk_redo f cdv A outer s H E).xe := passes_of (X := cx P w K mg base N_Desk_redo "Desk.redo" s_Desk_redo f cdv A outer s H E) rfl
  have sc := sc_Desk_redo
  refine ⟨_, (pss_cons (ps_if (pt_cmpR (op_eqD hr.units) (pe_callB u_len (by rfl) g_len (by decide +kernel) (pa_cons (pe_fld (pv 0) rfl) pa_nil)) pe_int (nomark _)) (pss_one (u_raise0 e_NothingToRedo rfl tk rfl)) pss_nil)
    (pss_cons (ps_fld (pv 0) (pe_op u_add (pe_fld (pv 0) rfl) (pe_tup (pa_cons (pe_fld (pv 0) rfl) pa_nil))) rfl)
    (pss_cons (ps_fld (pv 0) (pe_ix ix_seq (pe_fld (pv 0) rfl) pe_int (fun _ _ => rfl)) rfl)
    (pss_one (ps_fld (pv 0) (pe_slice u_sl (pe_fld (pv 0) rfl) (po_some pe_int) po_none) rfl))))), ?_⟩
  try simp only [show (cx P w K mg base N_Desk_redo "Desk.redo" s_Desk_redo f cdv A outer s H E).K = K from rfl, show (cx P w K mg base N_Desk_redo "Desk.redo" s_Desk_redo f cdv A outer s H E).prog = P from rfl, show (cx P w K mg base N_Desk_redo "Desk.redo" s_Desk_redo f cdv A outer s H E).w = w from rfl]
  clear tk po sc
  · rintro fs ds r fs' ⟨d, rfl, rfl, hl, h1⟩
    simp only [startM, Dk.fs, List.map_cons, List.map_nil, List.length_cons, List.length_nil, Nat.reduceAdd, Nat.reduceSub, List.reduceReplicate, List.cons_append, List.nil_append]
    repeat (walk_at "sv")
    · intro h
      repeat (walk_at "sv")
      rw [List.length_map, decide_eq_true_eq] at h
      rcases h1 with ⟨h1, rfl, rfl⟩ | ⟨s', ps, h1, rfl, rfl⟩
      · exact ⟨rfl, rfl⟩
      · rw [h1, List.length_cons] at h
        omega
    · intro h
      rw [List.length_map, decide_eq_false_iff_not] at h
      rcases h1 with ⟨h1, rfl, rfl⟩ | ⟨s', ps, h1, rfl, rfl⟩
      · exact absurd (by rw [h1]; rfl) h
      · have e : d.fut.map (skD cS) = skD cS s' :: ps.map (skD cS) := by rw [h1]; rfl
        have e2 : d.past.map (skD cS) ++ [skD cS d.st] = (d.past ++ [d.st]).map (skD cS) := by rw [List.map_append]; rfl
        rw [e]
        refine sv_next (thn_nx (sv_seq (sv_fld (ev_is (ev_op (by walk_at "dv") (by walk_at "dv") (add_tup (by rw [List.length_map, sizeLine_eq]; show _ + 1 ≤ _; omega))) (congrArg (fun z => Vd.st (.tup z)) e2)) (by walk_at "dt") rfl c0 n2 (Nat.le_of_ble_eq_true rfl) (thn_nx (sv_seq ?_)))))
        refine sv_fld (ev_op (by walk_at "dv") (by walk_at "dv") (ix_tup atI_head)) (by walk_at "dt") rfl c0 n1 (Nat.le_of_ble_eq_true rfl) (thn_nx ?_)
        refine sv_fld (ev_sl (by walk_at "dv") (ov_some ev_int) ov_none (sl_suf (k := 1) (by decide) (by rw [List.length_cons]; omega))) (by walk_at "dt") rfl c0 n3 (Nat.le_of_ble_eq_true rfl) ?_
        exact ⟨rfl, rfl⟩
  · rintro fs ds r fs' ⟨d, rfl, rfl, hl, h1⟩
    rfl
end
end DL

set_option maxRecDepth 100000
set_option maxHeartbeats 400000
namespace DL
open PySem L2
local macro_rules | `(tactic| walk_at "ds") => `(tactic| first | with_reducible assumption | exact eqok_tupD _ | exact eqok_kss _ | exact eqok3 | with_unfolding_all exact Eq.refl _ | exact Nat.le_of_ble_eq_true (Eq.refl true) | omega | decide | exact cdivW (by omega))
local macro_rules | `(tactic| walk_at "dv") => `(tactic| first
  | ((with_reducible show EV _ (tVar _) _ _); first | exact ev_var (by with_unfolding_all exact Eq.refl _) | exact ev_own (by with_unfolding_all exact Eq.refl _) | exact ev_ownI (by with_unfolding_all exact Eq.refl _))
  | ((with_reducible show EV _ (tC _) _ _); with_reducible first | exact ev_int | exact ev_str | exact ev_bl | exact ev_non)
  | ((with_reducible show EV _ (tOp _ _ _) _ _); exact ev_op (by walk_at "dv") (by walk_at "dv") (by walk_at "do"))
  | ((with_reducible show EV _ (tUn _ _) _ _); exact ev_un (by walk_at "dv") (by with_reducible exact neg_int))
  | ((with_reducible show EV _ (tChain _ _ _ _ _) _ _); exact ev_chain (by walk_at "dv") (by walk_at "dv") (by walk_at "do") (fun _ => by walk_at "dv") (fun _ => by walk_at "do"))
  | ((with_reducible show EV _ (tCB _ _) _ _); exact ev_cb (by walk_at "dv") (by walk_at "dc"))
  | ((with_reducible show EV _ (tAndV _ _) _ _); exact ev_andV (by walk_at "dv") (fun _ => by walk_at "dv"))
  | ((with_reducible show EV _ (tOrV _ _) _ _); exact ev_orV (by walk_at "dv") (fun _ => by walk_at "dv"))
  | ((with_reducible show EV _ (tNotV _) _ _); exact ev_notV (by walk_at "dv"))
  | ((with_reducible show EV _ (tIf _ _ _) _ _); exact ev_if (by walk_at "dv") (fun _ => by walk_at "dv") (fun _ => by walk_at "dv"))
  | ((with_reducible show EV _ (tSl _ _ _ _) _ _); exact ev_sl (by walk_at "dv") (by walk_at "dv") (by walk_at "dv") (by walk_at "dl"))
  | ((with_reducible show EV _ (tTup _) _ _); exact ev_tup (by walk_at "dv") (by walk_at "dt") (by walk_at "ds"))
  | ((with_reducible show EV _ (tLst _) _ _); exact ev_lst (by walk_at "dv") (by walk_at "dt") (by walk_at "ds"))
  | ((with_reducible show AV _ tNil _ _); exact av_nil)
  | ((with_reducible show AV _ (tCons _ _) _ _); exact av_cons (by walk_at "dv") (by walk_at "dv"))
  | ((with_reducible show OV _ tNoPart _ _); exact ov_none)
  | ((with_reducible show OV _ (tPart _) _ _); exact ov_some (by walk_at "dv"))
  | ((with_reducible show TV _ (tTest _) _ _); exact tv_test (by walk_at "dv"))
  | ((with_reducible show TV _ (tB _) _ _); exact tv_B (by walk_at "dv"))
  | ((with_reducible show TV _ (tNot _) _ _); exact tv_not (by walk_at "dv"))
  | ((with_reducible show TV _ (tAnd _ _) _ _); exact tv_and (by walk_at "dv") (fun _ => by walk_at "dv"))
  | ((with_reducible show TV _ (tOr _ _) _ _); exact tv_or (by walk_at "dv") (fun _ => by walk_at "dv"))
  | ((fail_if_success (with_reducible first | show TV _ (tTest _) _ _ | show TV _ (tB _) _ _ | show TV _ (tNot _) _ _ | show TV _ (tAnd _ _) _ _ | show TV _ (tOr _ _) _ _)); (with_reducible show TV _ _ _ _); exact tv_truB (by walk_at "dv"))
  | ((with_reducible show EV _ (tCallS _ _ _) _ _); exact ev_call (by walk_at "dv") (by walk_at "dt") (by walk_at "dr"))
  | ((with_reducible show EV _ (tFld _ _ _) _ _); exact ev_fld (by walk_at "dv") (by first | exact .st | exact .li | exact .fi) (by with_reducible assumption) (by with_reducible assumption) (by with_unfolding_all exact Eq.refl _))
  | ((with_reducible show EV _ (tProp _ _ _ _ _) _ _); exact ev_prop (by walk_at "dv") (by walk_at "dt") (by walk_at "dr"))
  | ((with_reducible show EV _ (tMethW _ _ _ _ _ _) _ _); exact ev_meth (by walk_at "dv") (by with_unfolding_all exact Eq.refl _) (by walk_at "dv") (by walk_at "dt") (by walk_at "dr")))
local macro_rules | `(tactic| walk_at "do") => `(tactic| with_reducible first
  | exact add_int | exact sub_int | exact lt_int | exact le_int | exact gt_int | exact ge_int
  | exact ix_lst .st (by assumption) | exact ix_lst .fr (by assumption) | exact ix_lst .ls (by assumption) | exact ix_tup (by assumption)
  | exact ix_tup (by with_unfolding_all exact Eq.refl _) | exact ix_lst .st (by with_unfolding_all exact Eq.refl _) | exact ix_lst .ls (by with_unfolding_all exact Eq.refl _) | exact ix_lst .fr (by with_unfolding_all exact Eq.refl _)
  | exact eq_int | exact ne_int | exact eq_strV | exact eq_str (by walk_at "ds") (by walk_at "ds") | exact ne_str (by walk_at "ds") (by walk_at "ds")
  | exact eq_dat .st .st (by walk_at "ds") (by walk_at "ds") | exact ne_dat .st .st (by walk_at "ds") (by walk_at "ds")
  | exact notin_lst .st .ls (by walk_at "ds") (by walk_at "ds") | exact in_lst .st .st (by walk_at "ds") (by walk_at "ds") | exact in_lst .st .ls (by walk_at "ds") (by walk_at "ds")
  | exact in_tup .st (by walk_at "ds") (by walk_at "ds")
  | exact mul_int (by walk_at "ds") | exact mod_int (by walk_at "ds") | exact fdiv_int (by walk_at "ds"))
local macro_rules | `(tactic| walk_at "dc") => `(tactic| with_reducible first
  | exact len_tup | exact len_lst .st | exact len_lst .ls | exact len_lst .fr
  | exact abs_int | exact max2_int | exact min2_int | exact min3_int | exact int_int | exact int_bl
  | exact list_tup | exact list_lst .st | exact list_lst .ls | exact list_lst .fr
  | exact all_bls .st | exact all_bls .ls | exact all_bls .fr)
local macro_rules | `(tactic| walk_at "dt") => `(tactic| first
  | ((with_reducible show Stb (Vd.st _) _); exact Stb.st)
  | ((with_reducible show Stb (Vd.fr _) _); exact Stb.fr)
  | ((with_reducible show Stb (Vd.fi _ _) _); exact Stb.fi)
  | ((with_reducible show Stbs [] _); with_reducible exact Stbs.nil)
  | ((with_reducible show Stbs (_ :: _) _); exact Stbs.cons (by walk_at "dt") (by walk_at "dt")))
local macro_rules | `(tactic| walk_at "dg") => `(tactic| first
  | ((with_reducible show GV _ gNil _ _ _); with_reducible exact gv_nil)
  | ((with_reducible show GV _ (gCons (gName _) _) (_ :: _) _ _); exact gv_cons (by walk_at "dg")))
local macro_rules | `(tactic| walk_at "sv") => `(tactic| first
  | with_reducible refine sv_seq ?_
  | with_reducible refine sv_next ?_
  | ((with_reducible show SV _ _ (tIfS _ _ _) _ _); refine sv_if (by walk_at "dv") ?_ ?_)
  | ((with_reducible show SV _ _ (tRet _) _ _); refine sv_retV (by walk_at "dv") (by walk_at "dt") ?_)
  | ((with_reducible show SV _ _ (tAsg _ (gTup _ _ _)) _ _); refine sv_tup (ee_of (by walk_at "dv") (by walk_at "dt")) (by rfl) (by walk_at "dg") ?_)
  | ((with_reducible show SV _ _ (tAsg _ (gName _)) _ _); refine sv_setV (by walk_at "dv") (by walk_at "dt") ?_)
  | ((with_reducible show SV _ _ (tPar _ _ _) _ _); refine sv_par (by walk_at "dv") (by walk_at "dt") ?_)
  | ((with_reducible show SV _ _ (tRaise0 _ _) _ _); refine sv_raise0 ?_)
  | ((with_reducible show SV _ _ (tRaise1 _ _ _ _) _ _); refine sv_raise1 (by walk_at "dv") (by walk_at "dt") ?_)
  | ((with_reducible refine thn_nx ?_); try dsimp only [List.set]))
local macro_rules | `(tactic| walk_at "sx") => `(tactic| first | (intro hx; exact absurd hx (by decide)) | (intro hx; exfalso; simp at hx))
local macro_rules | `(tactic| walk_at "bo") => `(tactic| (simp only [Bool.or_eq_true, Bool.not_eq_true', Bool.and_eq_false_iff, Bool.or_eq_false_iff, Bool.not_eq_false', decide_eq_false_iff_not, decide_eq_true_eq, Bool.and_eq_true, Bool.eq_false_iff, ne_eq, Bool.true_and, Bool.and_true] at * <;> omega))
section
variable {P : Program} {w : World} {K : Frag} {mg : Str → Option Value} {base : Heap} {cS cI cU cT cM cD cNU cNR : Addr}
def absI (i : Int) : Int := if i < 0 then -i else i
/-- state, rest, row of the law's own numbers -/
def rowS (cell : Int) : Nat → Int × Int × List Int
  | 0 => (absI cell % 2147483647, if 10 ^ 18 ≤ absI cell then absI cell else 0, [])
  | k + 1 =>
    let p := rowS cell k
    let st := ((p.1 + 1) * 48271 + 69621 * (k : Int)) % 2147483647
    if 0 < p.2.1 then (st, p.2.1 / 1009, p.2.2 ++ [p.2.1 % 1009]) else (st, p.2.1, p.2.2 ++ [st / 2048 % 1009])
def rowM (cell : Int) (many : Nat) : List Int := (rowS cell many).2.2
theorem rowS_st (cell : Int) (k : Nat) : 0 ≤ (rowS cell k).1 ∧ (rowS cell k).1 < 2147483647 := by
  cases k with
  | zero => exact ⟨Int.emod_nonneg _ (by decide), Int.emod_lt_of_pos _ (by decide)⟩
  | succ k =>
    unfold rowS
    dsimp only
    split <;> exact ⟨Int.emod_nonneg _ (by decide), Int.emod_lt_of_pos _ (by decide)⟩
theorem rowS_len (cell : Int) : ∀ k : Nat, (rowS cell k).2.2.length = k
  | 0 => rfl
  | k + 1 => by
    have := rowS_len cell k
    unfold rowS
    dsimp only
    split <;> simp [this]
theorem rowS_bd (cell : Int) : ∀ (k : Nat), ∀ x ∈ (rowS cell k).2.2, 0 ≤ x ∧ x < 1009
  | 0, x, h => by cases h
  | k + 1, x, h => by
    have ih := rowS_bd cell k
    unfold rowS at h
    dsimp only at h
    split at h
    · rcases List.mem_append.mp h with h | h
      · exact ih x h
      · rw [List.mem_singleton.mp h]
        exact ⟨Int.emod_nonneg _ (by decide), Int.emod_lt_of_pos _ (by decide)⟩
    · rcases List.mem_append.mp h with h | h
      · exact ih x h
      · rw [List.mem_singleton.mp h]
        exact ⟨Int.emod_nonneg _ (by decide), Int.emod_lt_of_pos _ (by decide)⟩
def R_row (ds : List D) (r : Res) : Prop := ∃ (cell : Int) (many : Nat), ds = [.int cell, .int many] ∧ many ≤ 1000 ∧ r = .ret (.lst ((rowM cell many).map D.int))
theorem f_row {f : Addr} {fd : FuncData} (F : Fun K "_law_row" "_law_row" s__law_row f fd) (g_abs : mg "abs" = none) (g_int : mg "int" = none) (g_range : mg "range" = none) : FnOk P w K mg base (L2.CX P w) 1 f fd ["_law_cell", "_law_many"] (spF K R_row) := by
  refine fnF F sc__law_row ?_ fun cdv A outer s H E hr => ?_
  rotate_left
  have tk : Takes (cx P w K mg base N__law_row "_law_row" s__law_row f cdv A outer s H E) (wE E) := takes_of rfl rfl rfl rfl
  have po : PassesOwn (model (cx P w K mg base N__law_row "_law_row" s__law_row f cdv A outer s H E).prog (cx P w K mg base N__law_row "_law_row" s__law_row f cdv A outer s H E).w) (cx P w K mg base N__law_row "_law_row" s__law_row f cdv A outer s H E).A (cx P w K mg base N__law_row "_law_row" s__law_row f cdv A outer s H E).env (cx P w K mg base N__law_row "_law_row" s__law_row f cdv A outer s H E).xe := passes_of (X := cx P w K mg base N__law_row "_law_row" s__law_row f cdv A outer s H E) rfl
  have sc := sc__law_row
  refine ⟨_, (pss_cons (ps_set (i := 2) sc.nd rfl (Or.inl rfl) (pe_lst pa_nil))
    (pss_cons (ps_set (i := 3) sc.nd rfl (Or.inl rfl) pe_int)
    (pss_cons (ps_if (pt_cmpR op_ge (pe_callB call_abs (by rfl) g_abs (by decide +kernel) (pa_cons (pv 0) pa_nil)) (pe_op op_pow pe_int pe_int) (nomark _)) (pss_one (ps_set (i := 3) sc.nd rfl (Or.inl rfl) (pe_callB call_abs (by rfl) g_abs (by decide +kernel) (pa_cons (pv 0) pa_nil)))) pss_nil)
    (pss_cons (ps_set (i := 4) sc.nd rfl (Or.inl rfl) (pe_op op_mod (pe_callTy call_int1 (by rfl) g_int (by decide +kernel) (pa_cons (pe_callB call_abs (by rfl) g_abs (by decide +kernel) (pa_cons (pv 0) pa_nil)) pa_nil)) pe_int))
    (pss_cons (ps_for po rfl (pi_range1 (by rfl) g_range (pa_cons (pv 1) pa_nil)) (pg_name (i := 5) sc.nd rfl (Or.inl rfl)) (pss_cons (ps_set (i := 4) sc.nd rfl (Or.inl rfl) (pe_op op_mod (pe_callTy call_int1 (by rfl) g_int (by decide +kernel) (pa_cons (pe_op u_add (pe_op op_mulW (pe_op u_add (pv 4) pe_int) pe_int) (pe_op op_mulW pe_int (pv 5))) pa_nil)) pe_int))
    (pss_one (ps_if (pt_cmpR op_gt (pv 3) pe_int (nomark _)) (pss_cons (ps_expr (pe_bm PySem.F.plainAttrs_list PySem.F.slot_list_append PySem.F.type_list_append mt_append (pv 2) (pa_cons (pe_op op_mod (pe_callTy call_int1 (by rfl) g_int (by decide +kernel) (pa_cons (pv 3) pa_nil)) pe_int) pa_nil)))
    (pss_one (ps_set (i := 3) sc.nd rfl (Or.inl rfl) (pe_op op_fdivW (pv 3) pe_int)))) (pss_one (ps_expr (pe_bm PySem.F.plainAttrs_list PySem.F.slot_list_append PySem.F.type_list_append mt_append (pv 2) (pa_cons (pe_op op_mod (pe_callTy call_int1 (by rfl) g_int (by decide +kernel) (pa_cons (pe_op op_fdivW (pv 4) pe_int) pa_nil)) pe_int) pa_nil))))))))
    (pss_one (ps_ret (pv 2)))))))), ?_⟩
  try simp only [show (cx P w K mg base N__law_row "_law_row" s__law_row f cdv A outer s H E).K = K from rfl, show (cx P w K mg base N__law_row "_law_row" s__law_row f cdv A outer s H E).prog = P from rfl, show (cx P w K mg base N__law_row "_law_row" s__law_row f cdv A outer s H E).w = w from rfl]
  clear tk po sc
  · rintro ds r ⟨cell, many, rfl, hm, rfl⟩
    simp only [start0, List.map_cons, List.map_nil, List.length_cons, List.length_nil, Nat.reduceAdd, Nat.reduceSub, List.reduceReplicate, List.cons_append, List.nil_append]
    have hmax : (2 : Nat) ^ 62 ≤ 2 ^ 400000 := Nat.pow_le_pow_right (by decide) (by decide)
    refine sv_seq (sv_setF (by walk_at "dv") (Nat.le_of_ble_eq_true rfl) (thn_nx (sv_seq ?_)))
    dsimp only [List.set]
    refine sv_setV (by walk_at "dv") (by walk_at "dt") (thn_nx (sv_seq ?_))
    dsimp only [List.set]
    have cp : CPow 10 18 := ⟨by decide, by decide, by decide⟩
    refine sv_to [.im (.int cell), .im (.int many), .ow (.lst []), .im (.int (rowS cell 0).2.1), .un, .un] (sv_if (tv_test (ev_op (by walk_at "dv") (ev_op (by walk_at "dv") (by walk_at "dv") (pow_int cp)) ge_int)) ?_ ?_) (thn_nx (sv_seq ?_))
    · intro h
      have e : (rowS cell 0).2.1 = absI cell := if_pos (of_decide_eq_true h)
      rw [e]
      exact sv_setV (by walk_at "dv") (by walk_at "dt") rfl
    · intro h
      have e : (rowS cell 0).2.1 = 0 := if_neg (of_decide_eq_false h)
      rw [e]
      exact sv_next rfl
    have e0 : (rowS cell 0).1 = absI cell % 2147483647 := rfl
    refine sv_setV (by walk_at "dv") (by walk_at "dt") (thn_nx (sv_seq ?_))
    dsimp only [List.set]
    refine sv_forR1 (fun i ρ => ∃ s5, ρ = [.im (.int cell), .im (.int many), .ow (.lst ((rowS cell i).2.2.map D.int)), .im (.int (rowS cell i).2.1), .im (.int (rowS cell i).1), s5]) (by walk_at "dv") ⟨by omega, by omega⟩ ⟨_, rfl⟩ ?_ ?_
    · rintro i ρ1 hi ⟨s5, rfl⟩
      refine ⟨_, g1_name, ?_⟩
      dsimp only [List.set]
      have hst := rowS_st cell i
      have hln := rowS_len cell i
      have m1 : CMulW ((rowS cell i).1 + 1) 48271 := mulW_of (Nat.lt_of_lt_of_le (by omega : _ < 2 ^ 62) hmax) (Nat.lt_of_lt_of_le (by decide : _ < 2 ^ 62) hmax)
      have m2 : CMulW 69621 (i : Int) := mulW_of (Nat.lt_of_lt_of_le (by decide : _ < 2 ^ 62) hmax) (Nat.lt_of_lt_of_le (by omega : _ < 2 ^ 62) hmax)
      refine sv_seq (sv_setV (by walk_at "dv") (by walk_at "dt") (thn_nx ?_))
      dsimp only [List.set]
      have sz : ((rowS cell i).2.2.map D.int).length < sizeLine := by rw [List.length_map, hln, sizeLine_eq]; omega
      refine sv_if (by walk_at "dv") ?_ ?_
      · intro h
        rw [decide_eq_true_eq] at h
        have e : rowS cell (i + 1) = ((((rowS cell i).1 + 1) * 48271 + 69621 * (i : Int)) % 2147483647, (rowS cell i).2.1 / 1009, (rowS cell i).2.2 ++ [(rowS cell i).2.1 % 1009]) := by
          rw [rowS]
          rw [if_pos h]
        refine sv_seq (sv_drop (ee_append rfl (ee_of (by walk_at "dv") (by walk_at "dt")) rfl sz) (thn_nx ?_))
        dsimp only [List.set]
        refine sv_setV (by walk_at "dv") (by walk_at "dt") ⟨.im (.int i), ?_⟩
        rw [e, List.map_append]
        rfl
      · intro h
        rw [decide_eq_false_iff_not] at h
        have e : rowS cell (i + 1) = ((((rowS cell i).1 + 1) * 48271 + 69621 * (i : Int)) % 2147483647, (rowS cell i).2.1, (rowS cell i).2.2 ++ [(((rowS cell i).1 + 1) * 48271 + 69621 * (i : Int)) % 2147483647 / 2048 % 1009]) := by
          rw [rowS]
          rw [if_neg h]
        refine sv_drop (ee_append rfl (ee_of (by walk_at "dv") (by walk_at "dt")) rfl sz) ⟨.im (.int i), ?_⟩
        rw [e, List.map_append]
        rfl
    · rintro ρ1 ⟨s5, rfl⟩
      refine thn_nx (sv_freeze 2 rfl (sv_retV (ev_var rfl) .st ?_))
      rw [Int.toNat_natCast]
      rfl
  · rintro ds r ⟨cell, many, rfl, hm, rfl⟩
    rfl
end
end DL

set_option maxRecDepth 100000
set_option maxHeartbeats 400000
namespace DL
open PySem L2
local macro_rules | `(tactic| walk_at "ds") => `(tactic| first | with_reducible assumption | exact eqok_tupD _ | exact eqok_kss _ | exact eqok3 | with_unfolding_all exact Eq.refl _ | exact Nat.le_of_ble_eq_true (Eq.refl true) | omega | decide | exact cdivW (by omega))
local macro_rules | `(tactic| walk_at "dv") => `(tactic| first
  | ((with_reducible show EV _ (tVar _) _ _); first | exact ev_var (by with_unfolding_all exact Eq.refl _) | exact ev_own (by with_unfolding_all exact Eq.refl _) | exact ev_ownI (by with_unfolding_all exact Eq.refl _))
  | ((with_reducible show EV _ (tC _) _ _); with_reducible first | exact ev_int | exact ev_str | exact ev_bl | exact ev_non)
  | ((with_reducible show EV _ (tOp _ _ _) _ _); exact ev_op (by walk_at "dv") (by walk_at "dv") (by walk_at "do"))
  | ((with_reducible show EV _ (tUn _ _) _ _); exact ev_un (by walk_at "dv") (by with_reducible exact neg_int))
  | ((with_reducible show EV _ (tChain _ _ _ _ _) _ _); exact ev_chain (by walk_at "dv") (by walk_at "dv") (by walk_at "do") (fun _ => by walk_at "dv") (fun _ => by walk_at "do"))
  | ((with_reducible show EV _ (tCB _ _) _ _); exact ev_cb (by walk_at "dv") (by walk_at "dc"))
  | ((with_reducible show EV _ (tAndV _ _) _ _); exact ev_andV (by walk_at "dv") (fun _ => by walk_at "dv"))
  | ((with_reducible show EV _ (tOrV _ _) _ _); exact ev_orV (by walk_at "dv") (fun _ => by walk_at "dv"))
  | ((with_reducible show EV _ (tNotV _) _ _); exact ev_notV (by walk_at "dv"))
  | ((with_reducible show EV _ (tIf _ _ _) _ _); exact ev_if (by walk_at "dv") (fun _ => by walk_at "dv") (fun _ => by walk_at "dv"))
  | ((with_reducible show EV _ (tSl _ _ _ _) _ _); exact ev_sl (by walk_at "dv") (by walk_at "dv") (by walk_at "dv") (by walk_at "dl"))
  | ((with_reducible show EV _ (tTup _) _ _); exact ev_tup (by walk_at "dv") (by walk_at "dt") (by walk_at "ds"))
  | ((with_reducible show EV _ (tLst _) _ _); exact ev_lst (by walk_at "dv") (by walk_at "dt") (by walk_at "ds"))
  | ((with_reducible show AV _ tNil _ _); exact av_nil)
  | ((with_reducible show AV _ (tCons _ _) _ _); exact av_cons (by walk_at "dv") (by walk_at "dv"))
  | ((with_reducible show OV _ tNoPart _ _); exact ov_none)
  | ((with_reducible show OV _ (tPart _) _ _); exact ov_some (by walk_at "dv"))
  | ((with_reducible show TV _ (tTest _) _ _); exact tv_test (by walk_at "dv"))
  | ((with_reducible show TV _ (tB _) _ _); exact tv_B (by walk_at "dv"))
  | ((with_reducible show TV _ (tNot _) _ _); exact tv_not (by walk_at "dv"))
  | ((with_reducible show TV _ (tAnd _ _) _ _); exact tv_and (by walk_at "dv") (fun _ => by walk_at "dv"))
  | ((with_reducible show TV _ (tOr _ _) _ _); exact tv_or (by walk_at "dv") (fun _ => by walk_at "dv"))
  | ((fail_if_success (with_reducible first | show TV _ (tTest _) _ _ | show TV _ (tB _) _ _ | show TV _ (tNot _) _ _ | show TV _ (tAnd _ _) _ _ | show TV _ (tOr _ _) _ _)); (with_reducible show TV _ _ _ _); exact tv_truB (by walk_at "dv"))
  | ((with_reducible show EV _ (tCallS _ _ _) _ _); exact ev_call (by walk_at "dv") (by walk_at "dt") (by walk_at "dr"))
  | ((with_reducible show EV _ (tFld _ _ _) _ _); exact ev_fld (by walk_at "dv") (by first | exact .st | exact .li | exact .fi) (by with_reducible assumption) (by with_reducible assumption) (by with_unfolding_all exact Eq.refl _))
  | ((with_reducible show EV _ (tProp _ _ _ _ _) _ _); exact ev_prop (by walk_at "dv") (by walk_at "dt") (by walk_at "dr"))
  | ((with_reducible show EV _ (tMethW _ _ _ _ _ _) _ _); exact ev_meth (by walk_at "dv") (by with_unfolding_all exact Eq.refl _) (by walk_at "dv") (by walk_at "dt") (by walk_at "dr")))
local macro_rules | `(tactic| walk_at "do") => `(tactic| with_reducible first
  | exact add_int | exact sub_int | exact lt_int | exact le_int | exact gt_int | exact ge_int
  | exact ix_lst .st (by assumption) | exact ix_lst .fr (by assumption) | exact ix_lst .ls (by assumption) | exact ix_tup (by assumption)
  | exact ix_tup (by with_unfolding_all exact Eq.refl _) | exact ix_lst .st (by with_unfolding_all exact Eq.refl _) | exact ix_lst .ls (by with_unfolding_all exact Eq.refl _) | exact ix_lst .fr (by with_unfolding_all exact Eq.refl _)
  | exact eq_int | exact ne_int | exact eq_strV | exact eq_str (by walk_at "ds") (by walk_at "ds") | exact ne_str (by walk_at "ds") (by walk_at "ds")
  | exact eq_dat .st .st (by walk_at "ds") (by walk_at "ds") | exact ne_dat .st .st (by walk_at "ds") (by walk_at "ds")
  | exact notin_lst .st .ls (by walk_at "ds") (by walk_at "ds") | exact in_lst .st .st (by walk_at "ds") (by walk_at "ds") | exact in_lst .st .ls (by walk_at "ds") (by walk_at "ds")
  | exact in_tup .st (by walk_at "ds") (by walk_at "ds")
  | exact mul_int (by walk_at "ds") | exact mod_int (by walk_at "ds") | exact fdiv_int (by walk_at "ds"))
local macro_rules | `(tactic| walk_at "dc") => `(tactic| with_reducible first
  | exact len_tup | exact len_lst .st | exact len_lst .ls | exact len_lst .fr
  | exact abs_int | exact max2_int | exact min2_int | exact min3_int | exact int_int | exact int_bl
  | exact list_tup | exact list_lst .st | exact list_lst .ls | exact list_lst .fr
  | exact all_bls .st | exact all_bls .ls | exact all_bls .fr)
local macro_rules | `(tactic| walk_at "dt") => `(tactic| first
  | ((with_reducible show Stb (Vd.st _) _); exact Stb.st)
  | ((with_reducible show Stb (Vd.fr _) _); exact Stb.fr)
  | ((with_reducible show Stb (Vd.fi _ _) _); exact Stb.fi)
  | ((with_reducible show Stbs [] _); with_reducible exact Stbs.nil)
  | ((with_reducible show Stbs (_ :: _) _); exact Stbs.cons (by walk_at "dt") (by walk_at "dt")))
local macro_rules | `(tactic| walk_at "dg") => `(tactic| first
  | ((with_reducible show GV _ gNil _ _ _); with_reducible exact gv_nil)
  | ((with_reducible show GV _ (gCons (gName _) _) (_ :: _) _ _); exact gv_cons (by walk_at "dg")))
local macro_rules | `(tactic| walk_at "sv") => `(tactic| first
  | with_reducible refine sv_seq ?_
  | with_reducible refine sv_next ?_
  | ((with_reducible show SV _ _ (tIfS _ _ _) _ _); refine sv_if (by walk_at "dv") ?_ ?_)
  | ((with_reducible show SV _ _ (tRet _) _ _); refine sv_retV (by walk_at "dv") (by walk_at "dt") ?_)
  | ((with_reducible show SV _ _ (tAsg _ (gTup _ _ _)) _ _); refine sv_tup (ee_of (by walk_at "dv") (by walk_at "dt")) (by rfl) (by walk_at "dg") ?_)
  | ((with_reducible show SV _ _ (tAsg _ (gName _)) _ _); refine sv_setV (by walk_at "dv") (by walk_at "dt") ?_)
  | ((with_reducible show SV _ _ (tPar _ _ _) _ _); refine sv_par (by walk_at "dv") (by walk_at "dt") ?_)
  | ((with_reducible show SV _ _ (tRaise0 _ _) _ _); refine sv_raise0 ?_)
  | ((with_reducible show SV _ _ (tRaise1 _ _ _ _) _ _); refine sv_raise1 (by walk_at "dv") (by walk_at "dt") ?_)
  | ((with_reducible refine thn_nx ?_); try dsimp only [List.set]))
local macro_rules | `(tactic| walk_at "sx") => `(tactic| first | (intro hx; exact absurd hx (by decide)) | (intro hx; exfalso; simp at hx))
local macro_rules | `(tactic| walk_at "bo") => `(tactic| (simp only [Bool.or_eq_true, Bool.not_eq_true', Bool.and_eq_false_iff, Bool.or_eq_false_iff, Bool.not_eq_false', decide_eq_false_iff_not, decide_eq_true_eq, Bool.and_eq_true, Bool.eq_false_iff, ne_eq, Bool.true_and, Bool.and_true] at * <;> omega))
section
variable {P : Program} {w : World} {K : Frag} {mg : Str → Option Value} {base : Heap} {cS cI cU cT cM cD cNU cNR : Addr}
theorem R_row_mk {cell : Int} {many : Nat} (h : many ≤ 1000) : R_row [.int cell, .int many] (.ret (.lst ((rowM cell many).map D.int))) := ⟨cell, many, rfl, h, rfl⟩
def eachM (l many : Nat) : Nat := 1 + many / (max 1 l)
def flatM (xs : List Int) (e : Nat) : List Int := xs.flatMap fun c => rowM c e
def numsM (xs : List Int) (many : Nat) : List Int := (flatM xs (eachM xs.length many) ++ List.replicate (many - (flatM xs (eachM xs.length many)).length) 0).take many
theorem numsM_len (xs : List Int) (many : Nat) : (numsM xs many).length = many := by
  unfold numsM
  rw [List.length_take, List.length_append, List.length_replicate]
  omega
theorem numsM_bd (xs : List Int) (many : Nat) : ∀ x ∈ numsM xs many, 0 ≤ x ∧ x < 1009 := by
  intro x hx
  rcases List.mem_append.mp (List.mem_of_mem_take hx) with h | h
  · obtain ⟨c, _, h⟩ := List.mem_flatMap.mp h
    exact rowS_bd c _ x h
  · rw [(List.mem_replicate.mp h).2]
    decide
theorem flatM_len (xs : List Int) (e : Nat) : (flatM xs e).length = xs.length * e := by
  unfold flatM
  induction xs with
  | nil => simp
  | cons x xs ih =>
    rw [List.flatMap_cons, List.length_append, ih, List.length_cons, Nat.succ_mul]
    have : (rowM x e).length = e := rowS_len x e
    omega
def R_numbers (ds : List D) (r : Res) : Prop := ∃ (xs : List Int) (many : Nat), ds = [.lst (xs.map D.int), .int many] ∧ xs.length ≤ 63 ∧ many ≤ 500 ∧ r = .ret (.lst ((numsM xs many).map D.int))
theorem f_numbers {f : Addr} {fd : FuncData} (F : Fun K "_law_numbers" "_law_numbers" s__law_numbers f fd) (g_len : mg "len" = none) (g_max : mg "max" = none) (h__law_row : DefN P w K mg base 1 "_law_row" (spF K R_row)) : FnOk P w K mg base (L2.CX P w) 2 f fd ["_law_script", "_law_many"] (spF K R_numbers) := by
  refine fnF F sc__law_numbers ?_ fun cdv A outer s H E hr => ?_
  rotate_left
  have tk : Takes (cx P w K mg base N__law_numbers "_law_numbers" s__law_numbers f cdv A outer s H E) (wE E) := takes_of rfl rfl rfl rfl
  have po : PassesOwn (model (cx P w K mg base N__law_numbers "_law_numbers" s__law_numbers f cdv A outer s H E).prog (cx P w K mg base N__law_numbers "_law_numbers" s__law_numbers f cdv A outer s H E).w) (cx P w K mg base N__law_numbers "_law_numbers" s__law_numbers f cdv A outer s H E).A (cx P w K mg base N__law_numbers "_law_numbers" s__law_numbers f cdv A outer s H E).env (cx P w K mg base N__law_numbers "_law_numbers" s__law_numbers f cdv A outer s H E).xe := passes_of (X := cx P w K mg base N__law_numbers "_law_numbers" s__law_numbers f cdv A outer s H E) rfl
  have sc := sc__law_numbers
  refine ⟨_, (pss_cons (ps_set (i := 2) sc.nd rfl (Or.inl rfl) (pe_slice u_sl (pv 0) po_none (po_some pe_int)))
    (pss_cons (ps_set (i := 3) sc.nd rfl (Or.inl rfl) (pe_op u_add pe_int (pe_op op_fdivW (pv 1) (pe_callB (call_max2 rfl) (by rfl) g_max (by decide +kernel) (pa_cons pe_int (pa_cons (pe_callB u_len (by rfl) g_len (by decide +kernel) (pa_cons (pv 2) pa_nil)) pa_nil))))))
    (pss_cons (ps_set (i := 4) sc.nd rfl (Or.inl rfl) (pe_lst pa_nil))
    (pss_cons (ps_for po rfl (pi_U (pv 2)) (pg_name (i := 5) sc.nd rfl (Or.inl rfl)) (pss_one (ps_for po rfl (pi_U (u_call h__law_row tk hr (by first | decide | omega) rfl (pa_cons (pv 5) (pa_cons (pv 3) pa_nil)))) (pg_name (i := 6) sc.nd rfl (Or.inl rfl)) (pss_one (ps_expr (pe_bm PySem.F.plainAttrs_list PySem.F.slot_list_append PySem.F.type_list_append mt_append (pv 4) (pa_cons (pv 6) pa_nil)))))))
    (pss_cons (ps_while po (pt_cmpR op_lt (pe_callB u_len (by rfl) g_len (by decide +kernel) (pa_cons (pv 4) pa_nil)) (pv 1) (nomark _)) (pss_one (ps_expr (pe_bm PySem.F.plainAttrs_list PySem.F.slot_list_append PySem.F.type_list_append mt_append (pv 4) (pa_cons pe_int pa_nil)))))
    (pss_one (ps_ret (pe_slice u_sl (pv 4) po_none (po_some (pv 1)))))))))), ?_⟩
  try simp only [show (cx P w K mg base N__law_numbers "_law_numbers" s__law_numbers f cdv A outer s H E).K = K from rfl, show (cx P w K mg base N__law_numbers "_law_numbers" s__law_numbers f cdv A outer s H E).prog = P from rfl, show (cx P w K mg base N__law_numbers "_law_numbers" s__law_numbers f cdv A outer s H E).w = w from rfl]
  clear tk po sc
  · rintro ds r ⟨xs, many, rfl, hx, hm, rfl⟩
    simp only [start0, List.map_cons, List.map_nil, List.length_cons, List.length_nil, Nat.reduceAdd, Nat.reduceSub, List.reduceReplicate, List.cons_append, List.nil_append]
    have hE : eachM xs.length many ≤ 501 := by
      unfold eachM
      have : many / max 1 xs.length ≤ many := Nat.div_le_self _ _
      omega
    have hml : (xs.map D.int).length ≤ 63 := by rw [List.length_map]; exact hx
    refine sv_seq (sv_setV (ev_sl (by walk_at "dv") ov_none (ov_some ev_int) (sl_wholeL (k := 63) .st hml)) .fr (thn_nx (sv_seq ?_)))
    dsimp only [List.set]
    have eE : (1 : Int) + (many : Int) / (if ((xs.map D.int).length : Int) > 1 then ((xs.map D.int).length : Int) else 1) = (eachM xs.length many : Int) := by
      unfold eachM
      rw [List.length_map]
      split
      · rw [Nat.max_eq_right (by omega)]
        simp
      · rw [Nat.max_eq_left (by omega)]
        simp
    have hd : CDivW (many : Int) (if ((xs.map D.int).length : Int) > 1 then ((xs.map D.int).length : Int) else 1) := cdivW (by split <;> omega)
    refine sv_setV (ev_is (by walk_at "dv") (congrArg (fun z => Vd.st (.int z)) eE)) .st (thn_nx (sv_seq ?_))
    dsimp only [List.set]
    refine sv_setF (by walk_at "dv") (Nat.le_of_ble_eq_true rfl) (thn_nx (sv_seq ?_))
    dsimp only [List.set]
    generalize hen : eachM xs.length many = en at *
    have hfl : (flatM xs en).length ≤ 63 * 501 := by
      rw [flatM_len]
      exact Nat.mul_le_mul hx hE
    refine sv_forUL (fun i ρ => ∃ s5 s6, ρ = [.im (.lst (xs.map D.int)), .im (.int many), .im (.lst (xs.map D.int)), .im (.int en), .ow (.lst ((flatM (xs.take i) en).map D.int)), s5, s6]) (by walk_at "dv") .st ⟨_, _, rfl⟩ ?_ ?_
    · rintro i d ρ1 hi ⟨s5, s6, rfl⟩
      rw [List.getElem?_map] at hi
      cases hc : xs[i]? with
      | none => rw [hc] at hi; cases hi
      | some c =>
        rw [hc] at hi
        obtain rfl : D.int c = d := by simpa using hi
        refine ⟨_, g1_name, ?_⟩
        dsimp only [List.set]
        have hil : i < xs.length := (List.getElem?_eq_some_iff.mp hc).1
        have hrl : (rowM c en).length = en := rowS_len c en
        have hft : (flatM (xs.take i) en).length ≤ 63 * 501 := by
          rw [flatM_len, List.length_take]
          exact Nat.mul_le_mul (by omega) hE
        refine sv_forUL (fun j ρ => ∃ s6, ρ = [.im (.lst (xs.map D.int)), .im (.int many), .im (.lst (xs.map D.int)), .im (.int en), .ow (.lst ((flatM (xs.take i) en ++ (rowM c en).take j).map D.int)), .im (.int c), s6]) (ev_call (by walk_at "dv") (by walk_at "dt") (R_row_mk (by omega))) .st ⟨_, by rw [List.take_zero, List.append_nil]⟩ ?_ ?_
        · rintro j d ρ1 hj ⟨s6, rfl⟩
          rw [List.getElem?_map] at hj
          cases hv : (rowM c en)[j]? with
          | none => rw [hv] at hj; cases hj
          | some v =>
            rw [hv] at hj
            obtain rfl : D.int v = d := by simpa using hj
            refine ⟨_, g1_name, ?_⟩
            dsimp only [List.set]
            refine sv_drop (ee_append rfl (ee_of (by walk_at "dv") (by walk_at "dt")) rfl ?_) ⟨.im (.int v), ?_⟩
            · rw [List.length_map, List.length_append, List.length_take, sizeLine_eq]
              omega
            · have e : (rowM c en).take (j + 1) = (rowM c en).take j ++ [v] := by rw [List.take_add_one, hv]; rfl
              rw [e, ← List.append_assoc, List.map_append (l₂ := [v])]
              rfl
        · rintro ρ1 ⟨s6, rfl⟩
          refine ⟨.im (.int c), s6, ?_⟩
          have e : flatM (xs.take (i + 1)) en = flatM (xs.take i) en ++ rowM c en := by
            unfold flatM
            rw [List.take_add_one, hc, List.flatMap_append]
            simp
          rw [e, List.length_map, List.take_length]
    · rintro ρ1 ⟨s5, s6, rfl⟩
      rw [List.length_map, List.take_length]
      refine thn_nx (sv_seq (sv_while (fun m ρ => ∃ j : Nat, ρ = [.im (.lst (xs.map D.int)), .im (.int many), .im (.lst (xs.map D.int)), .im (.int en), .ow (.lst ((flatM xs en ++ List.replicate j 0).map D.int)), s5, s6] ∧ j + m = many - (flatM xs en).length) _ ⟨0, by rw [List.replicate_zero, List.append_nil], Nat.zero_add _⟩ ?_))
      rintro m ρ1 ⟨j, rfl, hj⟩
      have hjl : (flatM xs en ++ List.replicate j 0).length = (flatM xs en).length + j := by rw [List.length_append, List.length_replicate]
      refine ⟨_, by walk_at "dv", fun h => ?_, fun h => ?_⟩
      · rw [List.length_map, hjl, decide_eq_true_eq] at h
        refine sv_drop (ee_append rfl (ee_of (by walk_at "dv") (by walk_at "dt")) rfl (by rw [List.length_map, hjl, sizeLine_eq]; omega)) ⟨m - 1, by omega, j + 1, ?_, by omega⟩
        rw [List.replicate_succ', ← List.append_assoc, List.map_append (l₂ := [0])]
        rfl
      · rw [List.length_map, hjl, decide_eq_false_iff_not] at h
        have ej : j = many - (flatM xs en).length := by omega
        refine thn_nx (sv_retV (ev_sl (by walk_at "dv") ov_none (ov_some (by walk_at "dv")) (sl_preL (k := many) .ls (by rw [List.length_map, hjl]; omega))) .fr ?_)
        show Res.ret _ = Res.ret _
        unfold numsM
        rw [hen, ← ej, List.map_take]
  · rintro ds r ⟨xs, many, rfl, hx, hm, rfl⟩
    rfl
end
end DL

set_option maxRecDepth 100000
set_option maxHeartbeats 400000
namespace DL
open PySem L2
local macro_rules | `(tactic| walk_at "ds") => `(tactic| first | with_reducible assumption | exact eqok_tupD _ | exact eqok_kss _ | exact eqok3 | with_unfolding_all exact Eq.refl _ | exact Nat.le_of_ble_eq_true (Eq.refl true) | omega | decide | exact cdivW (by omega))
local macro_rules | `(tactic| walk_at "dv") => `(tactic| first
  | ((with_reducible show EV _ (tVar _) _ _); first | exact ev_var (by with_unfolding_all exact Eq.refl _) | exact ev_own (by with_unfolding_all exact Eq.refl _) | exact ev_ownI (by with_unfolding_all exact Eq.refl _))
  | ((with_reducible show EV _ (tC _) _ _); with_reducible first | exact ev_int | exact ev_str | exact ev_bl | exact ev_non)
  | ((with_reducible show EV _ (tOp _ _ _) _ _); exact ev_op (by walk_at "dv") (by walk_at "dv") (by walk_at "do"))
  | ((with_reducible show EV _ (tUn _ _) _ _); exact ev_un (by walk_at "dv") (by with_reducible exact neg_int))
  | ((with_reducible show EV _ (tChain _ _ _ _ _) _ _); exact ev_chain (by walk_at "dv") (by walk_at "dv") (by walk_at "do") (fun _ => by walk_at "dv") (fun _ => by walk_at "do"))
  | ((with_reducible show EV _ (tCB _ _) _ _); exact ev_cb (by walk_at "dv") (by walk_at "dc"))
  | ((with_reducible show EV _ (tAndV _ _) _ _); exact ev_andV (by walk_at "dv") (fun _ => by walk_at "dv"))
  | ((with_reducible show EV _ (tOrV _ _) _ _); exact ev_orV (by walk_at "dv") (fun _ => by walk_at "dv"))
  | ((with_reducible show EV _ (tNotV _) _ _); exact ev_notV (by walk_at "dv"))
  | ((with_reducible show EV _ (tIf _ _ _) _ _); exact ev_if (by walk_at "dv") (fun _ => by walk_at "dv") (fun _ => by walk_at "dv"))
  | ((with_reducible show EV _ (tSl _ _ _ _) _ _); exact ev_sl (by walk_at "dv") (by walk_at "dv") (by walk_at "dv") (by walk_at "dl"))
  | ((with_reducible show EV _ (tTup _) _ _); exact ev_tup (by walk_at "dv") (by walk_at "dt") (by walk_at "ds"))
  | ((with_reducible show EV _ (tLst _) _ _); exact ev_lst (by walk_at "dv") (by walk_at "dt") (by walk_at "ds"))
  | ((with_reducible show AV _ tNil _ _); exact av_nil)
  | ((with_reducible show AV _ (tCons _ _) _ _); exact av_cons (by walk_at "dv") (by walk_at "dv"))
  | ((with_reducible show OV _ tNoPart _ _); exact ov_none)
  | ((with_reducible show OV _ (tPart _) _ _); exact ov_some (by walk_at "dv"))
  | ((with_reducible show TV _ (tTest _) _ _); exact tv_test (by walk_at "dv"))
  | ((with_reducible show TV _ (tB _) _ _); exact tv_B (by walk_at "dv"))
  | ((with_reducible show TV _ (tNot _) _ _); exact tv_not (by walk_at "dv"))
  | ((with_reducible show TV _ (tAnd _ _) _ _); exact tv_and (by walk_at "dv") (fun _ => by walk_at "dv"))
  | ((with_reducible show TV _ (tOr _ _) _ _); exact tv_or (by walk_at "dv") (fun _ => by walk_at "dv"))
  | ((fail_if_success (with_reducible first | show TV _ (tTest _) _ _ | show TV _ (tB _) _ _ | show TV _ (tNot _) _ _ | show TV _ (tAnd _ _) _ _ | show TV _ (tOr _ _) _ _)); (with_reducible show TV _ _ _ _); exact tv_truB (by walk_at "dv"))
  | ((with_reducible show EV _ (tCallS _ _ _) _ _); exact ev_call (by walk_at "dv") (by walk_at "dt") (by walk_at "dr"))
  | ((with_reducible show EV _ (tFld _ _ _) _ _); exact ev_fld (by walk_at "dv") (by first | exact .st | exact .li | exact .fi) (by with_reducible assumption) (by with_reducible assumption) (by with_unfolding_all exact Eq.refl _))
  | ((with_reducible show EV _ (tProp _ _ _ _ _) _ _); exact ev_prop (by walk_at "dv") (by walk_at "dt") (by walk_at "dr"))
  | ((with_reducible show EV _ (tMethW _ _ _ _ _ _) _ _); exact ev_meth (by walk_at "dv") (by with_unfolding_all exact Eq.refl _) (by walk_at "dv") (by walk_at "dt") (by walk_at "dr")))
local macro_rules | `(tactic| walk_at "do") => `(tactic| with_reducible first
  | exact add_int | exact sub_int | exact lt_int | exact le_int | exact gt_int | exact ge_int
  | exact ix_lst .st (by assumption) | exact ix_lst .fr (by assumption) | exact ix_lst .ls (by assumption) | exact ix_tup (by assumption)
  | exact ix_tup (by with_unfolding_all exact Eq.refl _) | exact ix_lst .st (by with_unfolding_all exact Eq.refl _) | exact ix_lst .ls (by with_unfolding_all exact Eq.refl _) | exact ix_lst .fr (by with_unfolding_all exact Eq.refl _)
  | exact eq_int | exact ne_int | exact eq_strV | exact eq_str (by walk_at "ds") (by walk_at "ds") | exact ne_str (by walk_at "ds") (by walk_at "ds")
  | exact eq_dat .st .st (by walk_at "ds") (by walk_at "ds") | exact ne_dat .st .st (by walk_at "ds") (by walk_at "ds")
  | exact notin_lst .st .ls (by walk_at "ds") (by walk_at "ds") | exact in_lst .st .st (by walk_at "ds") (by walk_at "ds") | exact in_lst .st .ls (by walk_at "ds") (by walk_at "ds")
  | exact in_tup .st (by walk_at "ds") (by walk_at "ds")
  | exact mul_int (by walk_at "ds") | exact mod_int (by walk_at "ds") | exact fdiv_int (by walk_at "ds"))
local macro_rules | `(tactic| walk_at "dc") => `(tactic| with_reducible first
  | exact len_tup | exact len_lst .st | exact len_lst .ls | exact len_lst .fr
  | exact abs_int | exact max2_int | exact min2_int | exact min3_int | exact int_int | exact int_bl
  | exact list_tup | exact list_lst .st | exact list_lst .ls | exact list_lst .fr
  | exact all_bls .st | exact all_bls .ls | exact all_bls .fr)
local macro_rules | `(tactic| walk_at "dt") => `(tactic| first
  | ((with_reducible show Stb (Vd.st _) _); exact Stb.st)
  | ((with_reducible show Stb (Vd.fr _) _); exact Stb.fr)
  | ((with_reducible show Stb (Vd.fi _ _) _); exact Stb.fi)
  | ((with_reducible show Stbs [] _); with_reducible exact Stbs.nil)
  | ((with_reducible show Stbs (_ :: _) _); exact Stbs.cons (by walk_at "dt") (by walk_at "dt")))
local macro_rules | `(tactic| walk_at "dg") => `(tactic| first
  | ((with_reducible show GV _ gNil _ _ _); with_reducible exact gv_nil)
  | ((with_reducible show GV _ (gCons (gName _) _) (_ :: _) _ _); exact gv_cons (by walk_at "dg")))
local macro_rules | `(tactic| walk_at "sv") => `(tactic| first
  | with_reducible refine sv_seq ?_
  | with_reducible refine sv_next ?_
  | ((with_reducible show SV _ _ (tIfS _ _ _) _ _); refine sv_if (by walk_at "dv") ?_ ?_)
  | ((with_reducible show SV _ _ (tRet _) _ _); refine sv_retV (by walk_at "dv") (by walk_at "dt") ?_)
  | ((with_reducible show SV _ _ (tAsg _ (gTup _ _ _)) _ _); refine sv_tup (ee_of (by walk_at "dv") (by walk_at "dt")) (by rfl) (by walk_at "dg") ?_)
  | ((with_reducible show SV _ _ (tAsg _ (gName _)) _ _); refine sv_setV (by walk_at "dv") (by walk_at "dt") ?_)
  | ((with_reducible show SV _ _ (tPar _ _ _) _ _); refine sv_par (by walk_at "dv") (by walk_at "dt") ?_)
  | ((with_reducible show SV _ _ (tRaise0 _ _) _ _); refine sv_raise0 ?_)
  | ((with_reducible show SV _ _ (tRaise1 _ _ _ _) _ _); refine sv_raise1 (by walk_at "dv") (by walk_at "dt") ?_)
  | ((with_reducible refine thn_nx ?_); try dsimp only [List.set]))
local macro_rules | `(tactic| walk_at "sx") => `(tactic| first | (intro hx; exact absurd hx (by decide)) | (intro hx; exfalso; simp at hx))
local macro_rules | `(tactic| walk_at "bo") => `(tactic| (simp only [Bool.or_eq_true, Bool.not_eq_true', Bool.and_eq_false_iff, Bool.or_eq_false_iff, Bool.not_eq_false', decide_eq_false_iff_not, decide_eq_true_eq, Bool.and_eq_true, Bool.eq_false_iff, ne_eq, Bool.true_and, Bool.and_true] at * <;> omega))
section
variable {P : Program} {w : World} {K : Frag} {mg : Str → Option Value} {base : Heap} {cS cI cU cT cM cD cNU cNR : Addr}
/-- a plain sky as the law bears it -/
def Sk.d (s : Sk) : D := .tup [.int s.side, .lst (s.kss.map tupD), s.cam.d]
def pSide (ns : List Int) (at' : Nat) : Int := [5, 4, 6, 7, 8, 9].getD (ns.getD at' 0 % 6).toNat 0
def pHalf (ns : List Int) (at' : Nat) : Int := (pSide ns at' - 1) / 2
def pReach (ns : List Int) (at' : Nat) : Int := if [1, 2, 0, 3, 4].getD (ns.getD (at' + 1) 0 % 5).toNat 0 < pHalf ns at' then [1, 2, 0, 3, 4].getD (ns.getD (at' + 1) 0 % 5).toNat 0 else pHalf ns at'
def pBlur (ns : List Int) (at' : Nat) : Int := ns.getD (at' + 2) 0 % (1 + min3 2 (pReach ns at') (pHalf ns at' - pReach ns at'))
def pCam (ns : List Int) (at' : Nat) : Cam := ⟨pReach ns at', pBlur ns at', ns.getD (at' + 3) 0 % 3, [1, 2, 3, 5, 9].getD (ns.getD (at' + 4) 0 % 5).toNat 0⟩
def pStar (ns : List Int) (at' k : Nat) : List Int := [ns.getD (at' + 6 + 3 * k) 0 % pSide ns at', ns.getD (at' + 6 + 3 * k + 1) 0 % pSide ns at', 1 + ns.getD (at' + 6 + 3 * k + 2) 0 % 9]
def pStars (ns : List Int) (at' : Nat) : Nat → List (List Int)
  | 0 => []
  | k + 1 => if pStar ns at' k ∈ pStars ns at' k then pStars ns at' k else pStars ns at' k ++ [pStar ns at' k]
def partsM (ns : List Int) (at' most : Nat) : Sk := ⟨pSide ns at', srt (pStars ns at' (ns.getD (at' + 5) 0 % (most + 1)).toNat), pCam ns at'⟩
theorem pSide_in (ns : List Int) (at' : Nat) : 4 ≤ pSide ns at' ∧ pSide ns at' ≤ 9 := by
  unfold pSide
  have h1 : (ns.getD at' 0 % 6).toNat < 6 := by
    have := Int.emod_lt_of_pos (ns.getD at' 0) (show (0 : Int) < 6 by decide)
    omega
  generalize (ns.getD at' 0 % 6).toNat = n at h1
  match n, h1 with
  | 0, _ => decide
  | 1, _ => decide
  | 2, _ => decide
  | 3, _ => decide
  | 4, _ => decide
  | 5, _ => decide
theorem pReach_in (ns : List Int) (at' : Nat) : 0 ≤ pReach ns at' ∧ pReach ns at' ≤ 4 ∧ pReach ns at' ≤ pHalf ns at' := by
  have hs := pSide_in ns at'
  have hh : 1 ≤ pHalf ns at' ∧ pHalf ns at' ≤ 4 := by unfold pHalf; omega
  have ht : 0 ≤ [1, 2, 0, 3, 4].getD (ns.getD (at' + 1) 0 % 5).toNat (0 : Int) := by
    have h1 : (ns.getD (at' + 1) 0 % 5).toNat < 5 := by
      have := Int.emod_lt_of_pos (ns.getD (at' + 1) 0) (show (0 : Int) < 5 by decide)
      omega
    generalize (ns.getD (at' + 1) 0 % 5).toNat = n at h1
    match n, h1 with
    | 0, _ => decide
    | 1, _ => decide
    | 2, _ => decide
    | 3, _ => decide
    | 4, _ => decide
  unfold pReach
  split <;> omega
theorem min3_in {a b c : Int} : min3 a b c ≤ a ∧ min3 a b c ≤ b ∧ min3 a b c ≤ c ∧ (0 ≤ a → 0 ≤ b → 0 ≤ c → 0 ≤ min3 a b c) := by
  unfold min3 mn2
  split <;> split <;> omega
theorem pBlur_in (ns : List Int) (at' : Nat) : 0 ≤ pBlur ns at' ∧ pBlur ns at' ≤ 2 ∧ pBlur ns at' ≤ pReach ns at' ∧ pBlur ns at' ≤ pHalf ns at' - pReach ns at' := by
  have h1 := pReach_in ns at'
  obtain ⟨m1, m2, m3, m4⟩ := @min3_in 2 (pReach ns at') (pHalf ns at' - pReach ns at')
  have m5 := m4 (by decide) h1.1 (by omega)
  unfold pBlur
  have a1 := Int.emod_nonneg (ns.getD (at' + 2) 0) (show (1 + min3 2 (pReach ns at') (pHalf ns at' - pReach ns at')) ≠ 0 by omega)
  have a2 := Int.emod_lt_of_pos (ns.getD (at' + 2) 0) (show 0 < (1 + min3 2 (pReach ns at') (pHalf ns at' - pReach ns at')) by omega)
  omega
/-- the numbers are good for a law's parts -/
def R_parts (ds : List D) (r : Res) : Prop := ∃ (ns : List Int) (at' most : Nat), ds = [.lst (ns.map D.int), .int at', .int most] ∧ at' + 6 + 3 * most ≤ ns.length ∧ most ≤ 20 ∧ r = .ret (partsM ns at' most).d
theorem pStars_kss (ns : List Int) (at' : Nat) : ∀ k : Nat, Kss 3 (pStars ns at' k) ∧ (pStars ns at' k).length ≤ k
  | 0 => ⟨(fun k h => by cases h), Nat.le_refl _⟩
  | k + 1 => by
    obtain ⟨h1, h2⟩ := pStars_kss ns at' k
    have hs := pSide_in ns at'
    unfold pStars
    split
    · exact ⟨h1, Nat.le_succ_of_le h2⟩
    · refine ⟨fun x hx => ?_, by rw [List.length_append]; exact Nat.succ_le_succ h2⟩
      rcases List.mem_append.mp hx with hx | hx
      · exact h1 x hx
      · rw [List.mem_singleton.mp hx]
        refine ⟨rfl, fun m hm => ?_⟩
        have e : ∀ z : Int, 0 ≤ z % pSide ns at' ∧ z % pSide ns at' < 9 + 1 := fun z => ⟨Int.emod_nonneg _ (by omega), by have := Int.emod_lt_of_pos z (show 0 < pSide ns at' by omega); omega⟩
        have e9 : ∀ z : Int, 0 ≤ z % 9 ∧ z % 9 < 9 := fun z => ⟨Int.emod_nonneg _ (by decide), Int.emod_lt_of_pos _ (by decide)⟩
        simp only [pStar, List.mem_cons, List.not_mem_nil, or_false] at hm
        rcases hm with rfl | rfl | rfl
        · have := e (ns.getD (at' + 6 + 3 * k) 0); omega
        · have := e (ns.getD (at' + 6 + 3 * k + 1) 0); omega
        · have := e9 (ns.getD (at' + 6 + 3 * k + 2) 0); omega
theorem f_parts {f : Addr} {fd : FuncData} (F : Fun K "_law_parts" "_law_parts" s__law_parts f fd) (g_int : mg "int" = none) (g_min : mg "min" = none) (g_range : mg "range" = none) (g_sorted : mg "sorted" = none) : FnOk P w K mg base (L2.CX P w) 1 f fd ["_law_numbers_here", "_law_at", "_law_most"] (spF K R_parts) := by
  refine fnF F sc__law_parts ?_ fun cdv A outer s H E hr => ?_
  rotate_left
  have tk : Takes (cx P w K mg base N__law_parts "_law_parts" s__law_parts f cdv A outer s H E) (wE E) := takes_of rfl rfl rfl rfl
  have po : PassesOwn (model (cx P w K mg base N__law_parts "_law_parts" s__law_parts f cdv A outer s H E).prog (cx P w K mg base N__law_parts "_law_parts" s__law_parts f cdv A outer s H E).w) (cx P w K mg base N__law_parts "_law_parts" s__law_parts f cdv A outer s H E).A (cx P w K mg base N__law_parts "_law_parts" s__law_parts f cdv A outer s H E).env (cx P w K mg base N__law_parts "_law_parts" s__law_parts f cdv A outer s H E).xe := passes_of (X := cx P w K mg base N__law_parts "_law_parts" s__law_parts f cdv A outer s H E) rfl
  have sc := sc__law_parts
  refine ⟨_, (pss_cons (ps_set (i := 3) sc.nd rfl (Or.inl rfl) (pe_ix ix_seq (pe_lst (pa_cons pe_int (pa_cons pe_int (pa_cons pe_int (pa_cons pe_int (pa_cons pe_int (pa_cons pe_int pa_nil))))))) (pe_op op_mod (pe_callTy call_int1 (by rfl) g_int (by decide +kernel) (pa_cons (pe_ix ix_seq (pv 0) (pv 1) (fun _ _ => rfl)) pa_nil)) pe_int) (fun _ _ => rfl)))
    (pss_cons (ps_set (i := 4) sc.nd rfl (Or.inl rfl) (pe_op op_fdivW (pe_op op_sub (pv 3) pe_int) pe_int))
    (pss_cons (ps_set (i := 5) sc.nd rfl (Or.inl rfl) (pe_callB (call_min2 rfl) (by rfl) g_min (by decide +kernel) (pa_cons (pv 4) (pa_cons (pe_ix ix_seq (pe_lst (pa_cons pe_int (pa_cons pe_int (pa_cons pe_int (pa_cons pe_int (pa_cons pe_int pa_nil)))))) (pe_op op_mod (pe_callTy call_int1 (by rfl) g_int (by decide +kernel) (pa_cons (pe_ix ix_seq (pv 0) (pe_op u_add (pv 1) pe_int) (fun _ _ => rfl)) pa_nil)) pe_int) (fun _ _ => rfl)) pa_nil))))
    (pss_cons (ps_set (i := 6) sc.nd rfl (Or.inl rfl) (pe_op op_mod (pe_callTy call_int1 (by rfl) g_int (by decide +kernel) (pa_cons (pe_ix ix_seq (pv 0) (pe_op u_add (pv 1) pe_int) (fun _ _ => rfl)) pa_nil)) (pe_op u_add pe_int (pe_callB (call_min3Nu rfl) (by rfl) g_min (by decide +kernel) (pa_cons pe_int (pa_cons (pv 5) (pa_cons (pe_op op_sub (pv 4) (pv 5)) pa_nil)))))))
    (pss_cons (ps_set (i := 7) sc.nd rfl (Or.inl rfl) (pe_tup (pa_cons (pv 5) (pa_cons (pv 6) (pa_cons (pe_op op_mod (pe_callTy call_int1 (by rfl) g_int (by decide +kernel) (pa_cons (pe_ix ix_seq (pv 0) (pe_op u_add (pv 1) pe_int) (fun _ _ => rfl)) pa_nil)) pe_int) (pa_cons (pe_ix ix_seq (pe_lst (pa_cons pe_int (pa_cons pe_int (pa_cons pe_int (pa_cons pe_int (pa_cons pe_int pa_nil)))))) (pe_op op_mod (pe_callTy call_int1 (by rfl) g_int (by decide +kernel) (pa_cons (pe_ix ix_seq (pv 0) (pe_op u_add (pv 1) pe_int) (fun _ _ => rfl)) pa_nil)) pe_int) (fun _ _ => rfl)) pa_nil))))))
    (pss_cons (ps_set (i := 8) sc.nd rfl (Or.inl rfl) (pe_lst pa_nil))
    (pss_cons (ps_for po rfl (pi_range1 (by rfl) g_range (pa_cons (pe_op op_mod (pe_callTy call_int1 (by rfl) g_int (by decide +kernel) (pa_cons (pe_ix ix_seq (pv 0) (pe_op u_add (pv 1) pe_int) (fun _ _ => rfl)) pa_nil)) (pe_op u_add (pv 2) pe_int)) pa_nil)) (pg_name (i := 9) sc.nd rfl (Or.inl rfl)) (pss_cons (ps_set (i := 10) sc.nd rfl (Or.inl rfl) (pe_op u_add (pe_op u_add (pv 1) pe_int) (pe_op op_mulW pe_int (pv 9))))
    (pss_cons (ps_set (i := 11) sc.nd rfl (Or.inl rfl) (pe_tup (pa_cons (pe_op op_mod (pe_callTy call_int1 (by rfl) g_int (by decide +kernel) (pa_cons (pe_ix ix_seq (pv 0) (pv 10) (fun _ _ => rfl)) pa_nil)) (pv 3)) (pa_cons (pe_op op_mod (pe_callTy call_int1 (by rfl) g_int (by decide +kernel) (pa_cons (pe_ix ix_seq (pv 0) (pe_op u_add (pv 10) pe_int) (fun _ _ => rfl)) pa_nil)) (pv 3)) (pa_cons (pe_op u_add pe_int (pe_op op_mod (pe_callTy call_int1 (by rfl) g_int (by decide +kernel) (pa_cons (pe_ix ix_seq (pv 0) (pe_op u_add (pv 10) pe_int) (fun _ _ => rfl)) pa_nil)) pe_int)) pa_nil)))))
    (pss_one (ps_if (pt_cmpR (u_notin (u65 hr)) (pv 11) (pv 8) (by rfl)) (pss_one (ps_expr (pe_bm PySem.F.plainAttrs_list PySem.F.slot_list_append PySem.F.type_list_append mt_append (pv 8) (pa_cons (pv 11) pa_nil)))) pss_nil)))))
    (pss_one (ps_ret (pe_tup (pa_cons (pv 3) (pa_cons (pe_callB u_sorted (by rfl) g_sorted (by decide +kernel) (pa_cons (pv 8) pa_nil)) (pa_cons (pv 7) pa_nil))))))))))))), ?_⟩
  try simp only [show (cx P w K mg base N__law_parts "_law_parts" s__law_parts f cdv A outer s H E).K = K from rfl, show (cx P w K mg base N__law_parts "_law_parts" s__law_parts f cdv A outer s H E).prog = P from rfl, show (cx P w K mg base N__law_parts "_law_parts" s__law_parts f cdv A outer s H E).w = w from rfl]
  clear tk po sc
  · rintro ds r ⟨ns, at', most, rfl, hn, hm, rfl⟩
    simp only [start0, List.map_cons, List.map_nil, List.length_cons, List.length_nil, Nat.reduceAdd, Nat.reduceSub, List.reduceReplicate, List.cons_append, List.nil_append]
    have hix : ∀ (i : Int) (j : Nat), i = j → j < ns.length → atI (ns.map D.int) i = some (.int (ns.getD j 0)) := fun i j e h => by
      subst e
      have := atI_map D.int (0 : Int) (n := (j : Int)) (xs := ns) (by omega) (by omega)
      rw [Int.toNat_natCast] at this
      exact this
    have htb : ∀ (l : List Int) (z n : Int), 0 < n → n = l.length → atI (l.map D.int) (z % n) = some (.int (l.getD (z % n).toNat 0)) := fun l z n h e =>
      atI_map D.int (0 : Int) (Int.emod_nonneg _ (by omega)) (by rw [← e]; exact Int.emod_lt_of_pos _ h)
    have i0 := hix at' at' rfl (by omega)
    have i1 := hix (at' + 1) (at' + 1) (by omega) (by omega)
    have i2 := hix (at' + 2) (at' + 2) (by omega) (by omega)
    have i3 := hix (at' + 3) (at' + 3) (by omega) (by omega)
    have i4 := hix (at' + 4) (at' + 4) (by omega) (by omega)
    have i5 := hix (at' + 5) (at' + 5) (by omega) (by omega)
    have t0 : atI [D.int 5, D.int 4, D.int 6, D.int 7, D.int 8, D.int 9] (ns.getD at' 0 % 6) = some (.int (pSide ns at')) := htb [5, 4, 6, 7, 8, 9] _ 6 (by decide) rfl
    have t1 : atI [D.int 1, D.int 2, D.int 0, D.int 3, D.int 4] (ns.getD (at' + 1) 0 % 5) = some (.int ([1, 2, 0, 3, 4].getD (ns.getD (at' + 1) 0 % 5).toNat 0)) := htb [1, 2, 0, 3, 4] _ 5 (by decide) rfl
    have t4 : atI [D.int 1, D.int 2, D.int 3, D.int 5, D.int 9] (ns.getD (at' + 4) 0 % 5) = some (.int ([1, 2, 3, 5, 9].getD (ns.getD (at' + 4) 0 % 5).toNat 0)) := htb [1, 2, 3, 5, 9] _ 5 (by decide) rfl
    have p6 : (0 : Int) < 6 := by decide
    have p5 : (0 : Int) < 5 := by decide
    have p3 : (0 : Int) < 3 := by decide
    have p9 : (0 : Int) < 9 := by decide
    have hs := pSide_in ns at'
    have hr := pReach_in ns at'
    have pS : (0 : Int) < pSide ns at' := by omega
    have pM : (0 : Int) < most + 1 := by omega
    have pB : (0 : Int) < 1 + min3 2 (pReach ns at') (pHalf ns at' - pReach ns at') := by
      obtain ⟨m1, m2, m3, m4⟩ := @min3_in 2 (pReach ns at') (pHalf ns at' - pReach ns at')
      have := m4 (by decide) hr.1 (by omega)
      omega
    refine sv_seq (sv_setV (by walk_at "dv") .st (thn_nx (sv_seq ?_)))
    dsimp only [List.set]
    refine sv_setV (d := .int (pHalf ns at')) (by walk_at "dv") (by walk_at "dt") (thn_nx (sv_seq ?_))
    dsimp only [List.set]
    refine sv_setV (d := .int (pReach ns at')) (by walk_at "dv") (by walk_at "dt") (thn_nx (sv_seq ?_))
    dsimp only [List.set]
    refine sv_setV (d := .int (pBlur ns at')) (by walk_at "dv") (by walk_at "dt") (thn_nx (sv_seq ?_))
    dsimp only [List.set]
    refine sv_setV (d := (pCam ns at').d) (by walk_at "dv") (by walk_at "dt") (thn_nx (sv_seq ?_))
    dsimp only [List.set]
    refine sv_setF (by walk_at "dv") (Nat.le_of_ble_eq_true rfl) (thn_nx (sv_seq ?_))
    dsimp only [List.set]
    have hk5 := Int.emod_lt_of_pos (ns.getD (at' + 5) 0) pM
    have hk0 := Int.emod_nonneg (ns.getD (at' + 5) 0) (show (most : Int) + 1 ≠ 0 by omega)
    have hmax : (2 : Nat) ^ 62 ≤ 2 ^ 400000 := Nat.pow_le_pow_right (by decide) (by decide)
    refine sv_forR1 (fun i ρ => ∃ s9 s10 s11, ρ = [.im (.lst (ns.map D.int)), .im (.int at'), .im (.int most), .im (.int (pSide ns at')), .im (.int (pHalf ns at')), .im (.int (pReach ns at')), .im (.int (pBlur ns at')), .im (pCam ns at').d, .ow (.lst ((pStars ns at' i).map tupD)), s9, s10, s11]) (by walk_at "dv") ⟨by omega, by omega⟩ ⟨_, _, _, rfl⟩ ?_ ?_
    · rintro i ρ1 hi ⟨s9, s10, s11, rfl⟩
      refine ⟨_, g1_name, ?_⟩
      dsimp only [List.set]
      have m1 : CMulW 3 (i : Int) := mulW_of (Nat.lt_of_lt_of_le (by decide : _ < 2 ^ 62) hmax) (Nat.lt_of_lt_of_le (by omega : _ < 2 ^ 62) hmax)
      have j0 := hix (at' + 6 + 3 * i) (at' + 6 + 3 * i) (by omega) (by omega)
      have j1 := hix (at' + 6 + 3 * i + 1) (at' + 6 + 3 * i + 1) (by omega) (by omega)
      have j2 := hix (at' + 6 + 3 * i + 2) (at' + 6 + 3 * i + 2) (by omega) (by omega)
      refine sv_seq (sv_setV (by walk_at "dv") (by walk_at "dt") (thn_nx (sv_seq ?_)))
      dsimp only [List.set]
      refine sv_setV (d := tupD (pStar ns at' i)) (by walk_at "dv") (by walk_at "dt") (thn_nx ?_)
      dsimp only [List.set]
      refine sv_if (by walk_at "dv") ?_ ?_
      · intro h
        rw [memD_tupD, Bool.not_eq_true', decide_eq_false_iff_not] at h
        refine sv_drop (ee_append rfl (ee_of (by walk_at "dv") (by walk_at "dt")) rfl ?_) ⟨.im (.int i), .im (.int (at' + 6 + 3 * i)), .im (tupD (pStar ns at' i)), ?_⟩
        · have := (pStars_kss ns at' i).2
          rw [List.length_map, sizeLine_eq]
          omega
        · have e : pStars ns at' (i + 1) = pStars ns at' i ++ [pStar ns at' i] := by
            rw [pStars, if_neg h]
          rw [e, List.map_append]
          rfl
      · intro h
        rw [memD_tupD, Bool.not_eq_false', decide_eq_true_eq] at h
        refine sv_next ⟨.im (.int i), .im (.int (at' + 6 + 3 * i)), .im (tupD (pStar ns at' i)), ?_⟩
        have e : pStars ns at' (i + 1) = pStars ns at' i := by
          rw [pStars, if_pos h]
        rw [e]
    · rintro ρ1 ⟨s9, s10, s11, rfl⟩
      obtain ⟨q1, q2⟩ := pStars_kss ns at' (ns.getD (at' + 5) 0 % (most + 1)).toNat
      refine thn_nx (sv_retV (ev_tup (av_cons (by walk_at "dv") (av_cons (ev_cb (av_cons (by walk_at "dv") av_nil) (sort_lst .ls q1 (by omega))) (av_cons (by walk_at "dv") av_nil))) (by walk_at "dt") (Nat.le_of_ble_eq_true rfl)) .st ?_)
      rfl
  · rintro ds r ⟨ns, at', most, rfl, hn, hm, rfl⟩
    rfl
end
end DL

set_option maxRecDepth 100000
set_option maxHeartbeats 400000
namespace DL
open PySem L2
local macro_rules | `(tactic| walk_at "ds") => `(tactic| first | with_reducible assumption | exact eqok_tupD _ | exact eqok_kss _ | exact eqok3 | with_unfolding_all exact Eq.refl _ | exact Nat.le_of_ble_eq_true (Eq.refl true) | omega | decide | exact cdivW (by omega))
local macro_rules | `(tactic| walk_at "dv") => `(tactic| first
  | ((with_reducible show EV _ (tVar _) _ _); first | exact ev_var (by with_unfolding_all exact Eq.refl _) | exact ev_own (by with_unfolding_all exact Eq.refl _) | exact ev_ownI (by with_unfolding_all exact Eq.refl _))
  | ((with_reducible show EV _ (tC _) _ _); with_reducible first | exact ev_int | exact ev_str | exact ev_bl | exact ev_non)
  | ((with_reducible show EV _ (tOp _ _ _) _ _); exact ev_op (by walk_at "dv") (by walk_at "dv") (by walk_at "do"))
  | ((with_reducible show EV _ (tUn _ _) _ _); exact ev_un (by walk_at "dv") (by with_reducible exact neg_int))
  | ((with_reducible show EV _ (tChain _ _ _ _ _) _ _); exact ev_chain (by walk_at "dv") (by walk_at "dv") (by walk_at "do") (fun _ => by walk_at "dv") (fun _ => by walk_at "do"))
  | ((with_reducible show EV _ (tCB _ _) _ _); exact ev_cb (by walk_at "dv") (by walk_at "dc"))
  | ((with_reducible show EV _ (tAndV _ _) _ _); exact ev_andV (by walk_at "dv") (fun _ => by walk_at "dv"))
  | ((with_reducible show EV _ (tOrV _ _) _ _); exact ev_orV (by walk_at "dv") (fun _ => by walk_at "dv"))
  | ((with_reducible show EV _ (tNotV _) _ _); exact ev_notV (by walk_at "dv"))
  | ((with_reducible show EV _ (tIf _ _ _) _ _); exact ev_if (by walk_at "dv") (fun _ => by walk_at "dv") (fun _ => by walk_at "dv"))
  | ((with_reducible show EV _ (tSl _ _ _ _) _ _); exact ev_sl (by walk_at "dv") (by walk_at "dv") (by walk_at "dv") (by walk_at "dl"))
  | ((with_reducible show EV _ (tTup _) _ _); exact ev_tup (by walk_at "dv") (by walk_at "dt") (by walk_at "ds"))
  | ((with_reducible show EV _ (tLst _) _ _); exact ev_lst (by walk_at "dv") (by walk_at "dt") (by walk_at "ds"))
  | ((with_reducible show AV _ tNil _ _); exact av_nil)
  | ((with_reducible show AV _ (tCons _ _) _ _); exact av_cons (by walk_at "dv") (by walk_at "dv"))
  | ((with_reducible show OV _ tNoPart _ _); exact ov_none)
  | ((with_reducible show OV _ (tPart _) _ _); exact ov_some (by walk_at "dv"))
  | ((with_reducible show TV _ (tTest _) _ _); exact tv_test (by walk_at "dv"))
  | ((with_reducible show TV _ (tB _) _ _); exact tv_B (by walk_at "dv"))
  | ((with_reducible show TV _ (tNot _) _ _); exact tv_not (by walk_at "dv"))
  | ((with_reducible show TV _ (tAnd _ _) _ _); exact tv_and (by walk_at "dv") (fun _ => by walk_at "dv"))
  | ((with_reducible show TV _ (tOr _ _) _ _); exact tv_or (by walk_at "dv") (fun _ => by walk_at "dv"))
  | ((fail_if_success (with_reducible first | show TV _ (tTest _) _ _ | show TV _ (tB _) _ _ | show TV _ (tNot _) _ _ | show TV _ (tAnd _ _) _ _ | show TV _ (tOr _ _) _ _)); (with_reducible show TV _ _ _ _); exact tv_truB (by walk_at "dv"))
  | ((with_reducible show EV _ (tCallS _ _ _) _ _); exact ev_call (by walk_at "dv") (by walk_at "dt") (by walk_at "dr"))
  | ((with_reducible show EV _ (tFld _ _ _) _ _); exact ev_fld (by walk_at "dv") (by first | exact .st | exact .li | exact .fi) (by with_reducible assumption) (by with_reducible assumption) (by with_unfolding_all exact Eq.refl _))
  | ((with_reducible show EV _ (tProp _ _ _ _ _) _ _); exact ev_prop (by walk_at "dv") (by walk_at "dt") (by walk_at "dr"))
  | ((with_reducible show EV _ (tMethW _ _ _ _ _ _) _ _); exact ev_meth (by walk_at "dv") (by with_unfolding_all exact Eq.refl _) (by walk_at "dv") (by walk_at "dt") (by walk_at "dr")))
local macro_rules | `(tactic| walk_at "do") => `(tactic| with_reducible first
  | exact add_int | exact sub_int | exact lt_int | exact le_int | exact gt_int | exact ge_int
  | exact ix_lst .st (by assumption) | exact ix_lst .fr (by assumption) | exact ix_lst .ls (by assumption) | exact ix_tup (by assumption)
  | exact ix_tup (by with_unfolding_all exact Eq.refl _) | exact ix_lst .st (by with_unfolding_all exact Eq.refl _) | exact ix_lst .ls (by with_unfolding_all exact Eq.refl _) | exact ix_lst .fr (by with_unfolding_all exact Eq.refl _)
  | exact eq_int | exact ne_int | exact eq_strV | exact eq_str (by walk_at "ds") (by walk_at "ds") | exact ne_str (by walk_at "ds") (by walk_at "ds")
  | exact eq_dat .st .st (by walk_at "ds") (by walk_at "ds") | exact ne_dat .st .st (by walk_at "ds") (by walk_at "ds")
  | exact notin_lst .st .ls (by walk_at "ds") (by walk_at "ds") | exact in_lst .st .st (by walk_at "ds") (by walk_at "ds") | exact in_lst .st .ls (by walk_at "ds") (by walk_at "ds")
  | exact in_tup .st (by walk_at "ds") (by walk_at "ds")
  | exact mul_int (by walk_at "ds") | exact mod_int (by walk_at "ds") | exact fdiv_int (by walk_at "ds"))
local macro_rules | `(tactic| walk_at "dc") => `(tactic| with_reducible first
  | exact len_tup | exact len_lst .st | exact len_lst .ls | exact len_lst .fr
  | exact abs_int | exact max2_int | exact min2_int | exact min3_int | exact int_int | exact int_bl
  | exact list_tup | exact list_lst .st | exact list_lst .ls | exact list_lst .fr
  | exact all_bls .st | exact all_bls .ls | exact all_bls .fr)
local macro_rules | `(tactic| walk_at "dt") => `(tactic| first
  | ((with_reducible show Stb (Vd.st _) _); exact Stb.st)
  | ((with_reducible show Stb (Vd.fr _) _); exact Stb.fr)
  | ((with_reducible show Stb (Vd.fi _ _) _); exact Stb.fi)
  | ((with_reducible show Stbs [] _); with_reducible exact Stbs.nil)
  | ((with_reducible show Stbs (_ :: _) _); exact Stbs.cons (by walk_at "dt") (by walk_at "dt")))
local macro_rules | `(tactic| walk_at "dg") => `(tactic| first
  | ((with_reducible show GV _ gNil _ _ _); with_reducible exact gv_nil)
  | ((with_reducible show GV _ (gCons (gName _) _) (_ :: _) _ _); exact gv_cons (by walk_at "dg")))
local macro_rules | `(tactic| walk_at "sv") => `(tactic| first
  | with_reducible refine sv_seq ?_
  | with_reducible refine sv_next ?_
  | ((with_reducible show SV _ _ (tIfS _ _ _) _ _); refine sv_if (by walk_at "dv") ?_ ?_)
  | ((with_reducible show SV _ _ (tRet _) _ _); refine sv_retV (by walk_at "dv") (by walk_at "dt") ?_)
  | ((with_reducible show SV _ _ (tAsg _ (gTup _ _ _)) _ _); refine sv_tup (ee_of (by walk_at "dv") (by walk_at "dt")) (by rfl) (by walk_at "dg") ?_)
  | ((with_reducible show SV _ _ (tAsg _ (gName _)) _ _); refine sv_setV (by walk_at "dv") (by walk_at "dt") ?_)
  | ((with_reducible show SV _ _ (tPar _ _ _) _ _); refine sv_par (by walk_at "dv") (by walk_at "dt") ?_)
  | ((with_reducible show SV _ _ (tRaise0 _ _) _ _); refine sv_raise0 ?_)
  | ((with_reducible show SV _ _ (tRaise1 _ _ _ _) _ _); refine sv_raise1 (by walk_at "dv") (by walk_at "dt") ?_)
  | ((with_reducible refine thn_nx ?_); try dsimp only [List.set]))
local macro_rules | `(tactic| walk_at "sx") => `(tactic| first | (intro hx; exact absurd hx (by decide)) | (intro hx; exfalso; simp at hx))
local macro_rules | `(tactic| walk_at "bo") => `(tactic| (simp only [Bool.or_eq_true, Bool.not_eq_true', Bool.and_eq_false_iff, Bool.or_eq_false_iff, Bool.not_eq_false', decide_eq_false_iff_not, decide_eq_true_eq, Bool.and_eq_true, Bool.eq_false_iff, ne_eq, Bool.true_and, Bool.and_true] at * <;> omega))
section
variable {P : Program} {w : World} {K : Frag} {mg : Str → Option Value} {base : Heap} {cS cI cU cT cM cD cNU cNR : Addr}
def R_turn (ds : List D) (r : Res) : Prop := ∃ q x y : Int, ds = [.int q, .tup [.int x, .int y]] ∧ 0 ≤ q ∧ q ≤ 3 ∧ r = .ret (.tup [.int (rotN q.toNat x y).1, .int (rotN q.toNat x y).2])
theorem f_turn {f : Addr} {fd : FuncData} (F : Fun K "_law_turn" "_law_turn" s__law_turn f fd) : FnOk P w K mg base (L2.CX P w) 1 f fd ["_law_quarter", "_law_pair"] (spF K R_turn) := by
  refine fnF F sc__law_turn ?_ fun cdv A outer s H E hr => ?_
  rotate_left
  have tk : Takes (cx P w K mg base N__law_turn "_law_turn" s__law_turn f cdv A outer s H E) (wE E) := takes_of rfl rfl rfl rfl
  have po : PassesOwn (model (cx P w K mg base N__law_turn "_law_turn" s__law_turn f cdv A outer s H E).prog (cx P w K mg base N__law_turn "_law_turn" s__law_turn f cdv A outer s H E).w) (cx P w K mg base N__law_turn "_law_turn" s__law_turn f cdv A outer s H E).A (cx P w K mg base N__law_turn "_law_turn" s__law_turn f cdv A outer s H E).env (cx P w K mg base N__law_turn "_law_turn" s__law_turn f cdv A outer s H E).xe := passes_of (X := cx P w K mg base N__law_turn "_law_turn" s__law_turn f cdv A outer s H E) rfl
  have sc := sc__law_turn
  refine ⟨_, (pss_cons (ps_asg (pv 1) (pg_tup rfl (pgs_cons (pg_name (i := 2) sc.nd rfl (Or.inl rfl)) (pgs_cons (pg_name (i := 3) sc.nd rfl (Or.inl rfl)) pgs_nil))))
    (pss_one (ps_ret (pe_ix ix_seq (pe_lst (pa_cons (pe_tup (pa_cons (pv 2) (pa_cons (pv 3) pa_nil))) (pa_cons (pe_tup (pa_cons (pe_un un_neg (pv 3)) (pa_cons (pv 2) pa_nil))) (pa_cons (pe_tup (pa_cons (pe_un un_neg (pv 2)) (pa_cons (pe_un un_neg (pv 3)) pa_nil))) (pa_cons (pe_tup (pa_cons (pv 3) (pa_cons (pe_un un_neg (pv 2)) pa_nil))) pa_nil))))) (pv 0) (fun _ _ => rfl))))), ?_⟩
  try simp only [show (cx P w K mg base N__law_turn "_law_turn" s__law_turn f cdv A outer s H E).K = K from rfl, show (cx P w K mg base N__law_turn "_law_turn" s__law_turn f cdv A outer s H E).prog = P from rfl, show (cx P w K mg base N__law_turn "_law_turn" s__law_turn f cdv A outer s H E).w = w from rfl]
  clear tk po sc
  · rintro ds r ⟨q, x, y, rfl, h1, h2, rfl⟩
    simp only [start0, List.map_cons, List.map_nil, List.length_cons, List.length_nil, Nat.reduceAdd, Nat.reduceSub, List.reduceReplicate, List.cons_append, List.nil_append]
    have hi : atI [D.tup [.int x, .int y], .tup [.int (-y), .int x], .tup [.int (-x), .int (-y)], .tup [.int y, .int (-x)]] q = some (.tup [.int (rotN q.toNat x y).1, .int (rotN q.toNat x y).2]) := by
      have : q = 0 ∨ q = 1 ∨ q = 2 ∨ q = 3 := by omega
      rcases this with rfl | rfl | rfl | rfl
      · rfl
      · rfl
      · rfl
      · show some (D.tup [.int y, .int (-x)]) = some (D.tup [.int (-(-y)), .int (-x)])
        rw [Int.neg_neg]
    repeat (walk_at "sv")
    rfl
  · rintro ds r ⟨q, x, y, rfl, h1, h2, rfl⟩
    rfl
theorem R_turn_mk {q x y : Int} (h1 : 0 ≤ q) (h2 : q ≤ 3) : R_turn [.int q, .tup [.int x, .int y]] (.ret (.tup [.int (rotN q.toNat x y).1, .int (rotN q.toNat x y).2])) := ⟨_, _, _, rfl, h1, h2, rfl⟩
def R_lmoved (ds : List D) (r : Res) : Prop := ∃ side x y c a b q : Int, ds = [.int side, .tup [.int x, .int y, .int c], .tup [.int a, .int b, .int q]] ∧ 0 < side ∧ 0 ≤ q ∧ q ≤ 3 ∧ r = .ret (tupD (movK side a b q [x, y, c]))
theorem f_lmoved {f : Addr} {fd : FuncData} (F : Fun K "_law_moved" "_law_moved" s__law_moved f fd) (g_int : mg "int" = none) (h__law_turn : DefN P w K mg base 1 "_law_turn" (spF K R_turn)) : FnOk P w K mg base (L2.CX P w) 2 f fd ["_law_side", "_law_star", "_law_motion"] (spF K R_lmoved) := by
  refine fnF F sc__law_moved ?_ fun cdv A outer s H E hr => ?_
  rotate_left
  have tk : Takes (cx P w K mg base N__law_moved "_law_moved" s__law_moved f cdv A outer s H E) (wE E) := takes_of rfl rfl rfl rfl
  have po : PassesOwn (model (cx P w K mg base N__law_moved "_law_moved" s__law_moved f cdv A outer s H E).prog (cx P w K mg base N__law_moved "_law_moved" s__law_moved f cdv A outer s H E).w) (cx P w K mg base N__law_moved "_law_moved" s__law_moved f cdv A outer s H E).A (cx P w K mg base N__law_moved "_law_moved" s__law_moved f cdv A outer s H E).env (cx P w K mg base N__law_moved "_law_moved" s__law_moved f cdv A outer s H E).xe := passes_of (X := cx P w K mg base N__law_moved "_law_moved" s__law_moved f cdv A outer s H E) rfl
  have sc := sc__law_moved
  refine ⟨_, (pss_cons (ps_asg (u_call h__law_turn tk hr (by first | decide | omega) rfl (pa_cons (pe_ix ix_seq (pv 2) pe_int (fun _ _ => rfl)) (pa_cons (pe_slice u_sl (pv 1) po_none (po_some pe_int)) pa_nil))) (pg_tup rfl (pgs_cons (pg_name (i := 3) sc.nd rfl (Or.inl rfl)) (pgs_cons (pg_name (i := 4) sc.nd rfl (Or.inl rfl)) pgs_nil))))
    (pss_one (ps_ret (pe_tup (pa_cons (pe_op op_mod (pe_callTy call_int1 (by rfl) g_int (by decide +kernel) (pa_cons (pe_op u_add (pe_op u_add (pv 3) (pe_ix ix_seq (pv 2) pe_int (fun _ _ => rfl))) (pv 0)) pa_nil)) (pv 0)) (pa_cons (pe_op op_mod (pe_callTy call_int1 (by rfl) g_int (by decide +kernel) (pa_cons (pe_op u_add (pe_op u_add (pv 4) (pe_ix ix_seq (pv 2) pe_int (fun _ _ => rfl))) (pv 0)) pa_nil)) (pv 0)) (pa_cons (pe_ix ix_seq (pv 1) pe_int (fun _ _ => rfl)) pa_nil))))))), ?_⟩
  try simp only [show (cx P w K mg base N__law_moved "_law_moved" s__law_moved f cdv A outer s H E).K = K from rfl, show (cx P w K mg base N__law_moved "_law_moved" s__law_moved f cdv A outer s H E).prog = P from rfl, show (cx P w K mg base N__law_moved "_law_moved" s__law_moved f cdv A outer s H E).w = w from rfl]
  clear tk po sc
  · rintro ds r ⟨side, x, y, c, a, b, q, rfl, h0, h1, h2, rfl⟩
    simp only [start0, List.map_cons, List.map_nil, List.length_cons, List.length_nil, Nat.reduceAdd, Nat.reduceSub, List.reduceReplicate, List.cons_append, List.nil_append]
    refine sv_seq (sv_tup (ee_of (ev_call (ds := [.int q, .tup [.int x, .int y]]) (av_cons (by walk_at "dv") (av_cons (ev_sl (x := .st (.tup [.int x, .int y, .int c])) (ev_var rfl) ov_none (ov_some ev_int) (sl_pre (k := 2) (Nat.le_of_ble_eq_true rfl))) av_nil)) (.cons .st (.cons .st .nil)) (R_turn_mk h1 h2)) .st) (by rfl) (by walk_at "dg") (thn_nx ?_))
    dsimp only [List.set]
    refine sv_retV (by walk_at "dv") (by walk_at "dt") ?_
    show Res.ret _ = Res.ret _
    have e : ∀ z : Int, (z + side) % side = z % side := fun z => by rw [Int.add_emod_right]
    rw [e, e]
    rfl
  · rintro ds r ⟨side, x, y, c, a, b, q, rfl, h0, h1, h2, rfl⟩
    rfl
theorem f_lcam {f : Addr} {fd : FuncData} (F : Fun K "_law_is_camera" "_law_is_camera" s__law_is_camera f fd) : FnOk P w K mg base (L2.CX P w) 1 f fd ["_law_side", "_law_camera"] (spF K R_is_camera) := by
  refine fnF F sc__law_is_camera ?_ fun cdv A outer s H E hr => ?_
  rotate_left
  have tk : Takes (cx P w K mg base N__law_is_camera "_law_is_camera" s__law_is_camera f cdv A outer s H E) (wE E) := takes_of rfl rfl rfl rfl
  have po : PassesOwn (model (cx P w K mg base N__law_is_camera "_law_is_camera" s__law_is_camera f cdv A outer s H E).prog (cx P w K mg base N__law_is_camera "_law_is_camera" s__law_is_camera f cdv A outer s H E).w) (cx P w K mg base N__law_is_camera "_law_is_camera" s__law_is_camera f cdv A outer s H E).A (cx P w K mg base N__law_is_camera "_law_is_camera" s__law_is_camera f cdv A outer s H E).env (cx P w K mg base N__law_is_camera "_law_is_camera" s__law_is_camera f cdv A outer s H E).xe := passes_of (X := cx P w K mg base N__law_is_camera "_law_is_camera" s__law_is_camera f cdv A outer s H E) rfl
  have sc := sc__law_is_camera
  refine ⟨_, (pss_cons (ps_asg (pv 1) (pg_tup rfl (pgs_cons (pg_name (i := 2) sc.nd rfl (Or.inl rfl)) (pgs_cons (pg_name (i := 3) sc.nd rfl (Or.inl rfl)) (pgs_cons (pg_name (i := 4) sc.nd rfl (Or.inl rfl)) (pgs_cons (pg_name (i := 5) sc.nd rfl (Or.inl rfl)) pgs_nil))))))
    (pss_cons (ps_if (PW.pt (pw_or (pt_not (pt_chain op_le op_le pe_int (pv 3) pe_int)) (pw_or (pt_not (pt_chain op_le op_le (pv 3) (pv 2) pe_int)) (pw_or1 (pt_cmpR op_gt (pe_op u_add (pe_op op_mulW pe_int (pe_op u_add (pv 2) (pv 3))) pe_int) (pv 0) (nomark _)))))) (pss_one (ps_ret pe_bl)) pss_nil)
    (pss_one (ps_ret (pe_and (pe_chain op_le op_le pe_int (pv 4) pe_int) (pe_one (pe_chain op_le op_le pe_int (pv 5) pe_int))))))), ?_⟩
  try simp only [show (cx P w K mg base N__law_is_camera "_law_is_camera" s__law_is_camera f cdv A outer s H E).K = K from rfl, show (cx P w K mg base N__law_is_camera "_law_is_camera" s__law_is_camera f cdv A outer s H E).prog = P from rfl, show (cx P w K mg base N__law_is_camera "_law_is_camera" s__law_is_camera f cdv A outer s H E).w = w from rfl]
  clear tk po sc
  · rintro ds r ⟨side, reach, blur, glare, limit, rfl, h1, h2, rfl⟩
    simp only [start0, tupD, List.map_cons, List.map_nil, List.length_cons, List.length_nil, Nat.reduceAdd, Nat.reduceSub, List.reduceReplicate, List.cons_append, List.nil_append]
    have m1 := two_mulW h1 h2
    repeat (walk_at "sv")
    · intro h
      repeat (walk_at "sv")
      have e : camB side reach blur glare limit = false := by
        unfold camB
        rw [Bool.eq_false_iff]
        intro z
        split at z
        · cases z
        · rename_i k
          simp only [Bool.or_eq_true, Bool.not_eq_true', Bool.and_eq_false_iff, decide_eq_false_iff_not, decide_eq_true_eq, Bool.and_eq_true] at h k z
          omega
      show Res.ret _ = Res.ret _
      rw [e]
    · intro h
      repeat (walk_at "sv")
      have e : camB side reach blur glare limit = ((decide (0 ≤ glare) && decide (glare ≤ 2)) && (decide (1 ≤ limit) && decide (limit ≤ 9))) := by
        unfold camB
        rw [Bool.eq_iff_iff]
        split
        · rename_i k
          simp only [Bool.or_eq_false_iff, Bool.or_eq_true, Bool.not_eq_true', Bool.not_eq_false', Bool.and_eq_false_iff, decide_eq_false_iff_not, decide_eq_true_eq, Bool.and_eq_true] at h k ⊢
          constructor
          · intro z; cases z
          · intro z; omega
        · rename_i k
          simp only [Bool.or_eq_false_iff, Bool.or_eq_true, Bool.not_eq_true', Bool.not_eq_false', Bool.and_eq_false_iff, decide_eq_false_iff_not, decide_eq_true_eq, Bool.and_eq_true] at h k ⊢
          omega
      show Res.ret _ = Res.ret _
      rw [e]
  · rintro ds r ⟨side, reach, blur, glare, limit, rfl, h1, h2, rfl⟩
    rfl
/-- a drawn deed -/
inductive Dd where
  | star (x y b : Int)
  | noStar (n : Int)
  | cam (c : Cam)
  | move (a b q : Int)
def Dd.d : Dd → D
  | .star x y b => .tup [.str "star", tupD [x, y, b]]
  | .noStar n => .tup [.str "no star", .int n]
  | .cam c => .tup [.str "camera", c.d]
  | .move a b q => .tup [.str "move", tupD [a, b, q]]
def goodB (side x y b : Int) (n : Nat) : Bool := (decide (0 ≤ x) && decide (x < side)) && ((decide (0 ≤ y) && decide (y < side)) && ((decide (1 ≤ b) && decide (b ≤ 9)) && decide ((n : Int) < 20)))
/-- what a change makes of a plain sky -/
inductive Bh where
  | ok (s : Sk)
  | no (w : Str) (v : D)
def behM (s : Sk) : Dd → Bh
  | .star x y b => if decide ([x, y, b] ∈ s.kss) = true then .no "taken" (tupD [x, y, b]) else if goodB s.side x y b s.kss.length = true then .ok (withS s [x, y, b]).mk' else .no "sky" .non
  | .noStar n => if inB n s.kss.length = true then .ok (dropS s n.toNat) else .no "star" (.int n)
  | .cam c => if camB s.side c.r c.b c.g c.l = true then .ok (withC s c) else .no "sky" .non
  | .move a b q => if motB s.side a b q = true then .ok (movS s a b q).mk' else .no "motion" (tupD [a, b, q])
def Bh.d : Bh → D
  | .ok s => s.d
  | .no w v => .tup [.str w, v]
/-- what holds of a plain sky of the law -/
structure Sk.fine (s : Sk) : Prop where
  k3 : Kss 3 s.kss
  cs : s.cam.sm
  s0 : 4 ≤ s.side
  s9 : s.side ≤ 9
  len : s.kss.length ≤ 20
def Dd.sm : Dd → Prop
  | .cam c => c.sm
  | _ => True
def R_behind (ds : List D) (r : Res) : Prop := ∃ (s : Sk) (d : Dd), ds = [s.d, d.d] ∧ s.fine ∧ d.sm ∧ r = .ret (behM s d).d
end
end DL

set_option maxRecDepth 100000
set_option maxHeartbeats 400000
namespace DL
open PySem L2
local macro_rules | `(tactic| walk_at "ds") => `(tactic| first | with_reducible assumption | exact eqok_tupD _ | exact eqok_kss _ | exact eqok3 | with_unfolding_all exact Eq.refl _ | exact Nat.le_of_ble_eq_true (Eq.refl true) | omega | decide | exact cdivW (by omega))
local macro_rules | `(tactic| walk_at "dv") => `(tactic| first
  | ((with_reducible show EV _ (tVar _) _ _); first | exact ev_var (by with_unfolding_all exact Eq.refl _) | exact ev_own (by with_unfolding_all exact Eq.refl _) | exact ev_ownI (by with_unfolding_all exact Eq.refl _))
  | ((with_reducible show EV _ (tC _) _ _); with_reducible first | exact ev_int | exact ev_str | exact ev_bl | exact ev_non)
  | ((with_reducible show EV _ (tOp _ _ _) _ _); exact ev_op (by walk_at "dv") (by walk_at "dv") (by walk_at "do"))
  | ((with_reducible show EV _ (tUn _ _) _ _); exact ev_un (by walk_at "dv") (by with_reducible exact neg_int))
  | ((with_reducible show EV _ (tChain _ _ _ _ _) _ _); exact ev_chain (by walk_at "dv") (by walk_at "dv") (by walk_at "do") (fun _ => by walk_at "dv") (fun _ => by walk_at "do"))
  | ((with_reducible show EV _ (tCB _ _) _ _); exact ev_cb (by walk_at "dv") (by walk_at "dc"))
  | ((with_reducible show EV _ (tAndV _ _) _ _); exact ev_andV (by walk_at "dv") (fun _ => by walk_at "dv"))
  | ((with_reducible show EV _ (tOrV _ _) _ _); exact ev_orV (by walk_at "dv") (fun _ => by walk_at "dv"))
  | ((with_reducible show EV _ (tNotV _) _ _); exact ev_notV (by walk_at "dv"))
  | ((with_reducible show EV _ (tIf _ _ _) _ _); exact ev_if (by walk_at "dv") (fun _ => by walk_at "dv") (fun _ => by walk_at "dv"))
  | ((with_reducible show EV _ (tSl _ _ _ _) _ _); exact ev_sl (by walk_at "dv") (by walk_at "dv") (by walk_at "dv") (by walk_at "dl"))
  | ((with_reducible show EV _ (tTup _) _ _); exact ev_tup (by walk_at "dv") (by walk_at "dt") (by walk_at "ds"))
  | ((with_reducible show EV _ (tLst _) _ _); exact ev_lst (by walk_at "dv") (by walk_at "dt") (by walk_at "ds"))
  | ((with_reducible show AV _ tNil _ _); exact av_nil)
  | ((with_reducible show AV _ (tCons _ _) _ _); exact av_cons (by walk_at "dv") (by walk_at "dv"))
  | ((with_reducible show OV _ tNoPart _ _); exact ov_none)
  | ((with_reducible show OV _ (tPart _) _ _); exact ov_some (by walk_at "dv"))
  | ((with_reducible show TV _ (tTest _) _ _); exact tv_test (by walk_at "dv"))
  | ((with_reducible show TV _ (tB _) _ _); exact tv_B (by walk_at "dv"))
  | ((with_reducible show TV _ (tNot _) _ _); exact tv_not (by walk_at "dv"))
  | ((with_reducible show TV _ (tAnd _ _) _ _); exact tv_and (by walk_at "dv") (fun _ => by walk_at "dv"))
  | ((with_reducible show TV _ (tOr _ _) _ _); exact tv_or (by walk_at "dv") (fun _ => by walk_at "dv"))
  | ((fail_if_success (with_reducible first | show TV _ (tTest _) _ _ | show TV _ (tB _) _ _ | show TV _ (tNot _) _ _ | show TV _ (tAnd _ _) _ _ | show TV _ (tOr _ _) _ _)); (with_reducible show TV _ _ _ _); exact tv_truB (by walk_at "dv"))
  | ((with_reducible show EV _ (tCallS _ _ _) _ _); exact ev_call (by walk_at "dv") (by walk_at "dt") (by walk_at "dr"))
  | ((with_reducible show EV _ (tFld _ _ _) _ _); exact ev_fld (by walk_at "dv") (by first | exact .st | exact .li | exact .fi) (by with_reducible assumption) (by with_reducible assumption) (by with_unfolding_all exact Eq.refl _))
  | ((with_reducible show EV _ (tProp _ _ _ _ _) _ _); exact ev_prop (by walk_at "dv") (by walk_at "dt") (by walk_at "dr"))
  | ((with_reducible show EV _ (tMethW _ _ _ _ _ _) _ _); exact ev_meth (by walk_at "dv") (by with_unfolding_all exact Eq.refl _) (by walk_at "dv") (by walk_at "dt") (by walk_at "dr")))
local macro_rules | `(tactic| walk_at "do") => `(tactic| with_reducible first
  | exact add_int | exact sub_int | exact lt_int | exact le_int | exact gt_int | exact ge_int
  | exact ix_lst .st (by assumption) | exact ix_lst .fr (by assumption) | exact ix_lst .ls (by assumption) | exact ix_tup (by assumption)
  | exact ix_tup (by with_unfolding_all exact Eq.refl _) | exact ix_lst .st (by with_unfolding_all exact Eq.refl _) | exact ix_lst .ls (by with_unfolding_all exact Eq.refl _) | exact ix_lst .fr (by with_unfolding_all exact Eq.refl _)
  | exact eq_int | exact ne_int | exact eq_strV | exact eq_str (by walk_at "ds") (by walk_at "ds") | exact ne_str (by walk_at "ds") (by walk_at "ds")
  | exact eq_dat .st .st (by walk_at "ds") (by walk_at "ds") | exact ne_dat .st .st (by walk_at "ds") (by walk_at "ds")
  | exact notin_lst .st .ls (by walk_at "ds") (by walk_at "ds") | exact in_lst .st .st (by walk_at "ds") (by walk_at "ds") | exact in_lst .st .ls (by walk_at "ds") (by walk_at "ds")
  | exact in_tup .st (by walk_at "ds") (by walk_at "ds")
  | exact mul_int (by walk_at "ds") | exact mod_int (by walk_at "ds") | exact fdiv_int (by walk_at "ds"))
local macro_rules | `(tactic| walk_at "dc") => `(tactic| with_reducible first
  | exact len_tup | exact len_lst .st | exact len_lst .ls | exact len_lst .fr
  | exact abs_int | exact max2_int | exact min2_int | exact min3_int | exact int_int | exact int_bl
  | exact list_tup | exact list_lst .st | exact list_lst .ls | exact list_lst .fr
  | exact all_bls .st | exact all_bls .ls | exact all_bls .fr)
local macro_rules | `(tactic| walk_at "dt") => `(tactic| first
  | ((with_reducible show Stb (Vd.st _) _); exact Stb.st)
  | ((with_reducible show Stb (Vd.fr _) _); exact Stb.fr)
  | ((with_reducible show Stb (Vd.fi _ _) _); exact Stb.fi)
  | ((with_reducible show Stbs [] _); with_reducible exact Stbs.nil)
  | ((with_reducible show Stbs (_ :: _) _); exact Stbs.cons (by walk_at "dt") (by walk_at "dt")))
local macro_rules | `(tactic| walk_at "dg") => `(tactic| first
  | ((with_reducible show GV _ gNil _ _ _); with_reducible exact gv_nil)
  | ((with_reducible show GV _ (gCons (gName _) _) (_ :: _) _ _); exact gv_cons (by walk_at "dg")))
local macro_rules | `(tactic| walk_at "sv") => `(tactic| first
  | with_reducible refine sv_seq ?_
  | with_reducible refine sv_next ?_
  | ((with_reducible show SV _ _ (tIfS _ _ _) _ _); refine sv_if (by walk_at "dv") ?_ ?_)
  | ((with_reducible show SV _ _ (tRet _) _ _); refine sv_retV (by walk_at "dv") (by walk_at "dt") ?_)
  | ((with_reducible show SV _ _ (tAsg _ (gTup _ _ _)) _ _); refine sv_tup (ee_of (by walk_at "dv") (by walk_at "dt")) (by rfl) (by walk_at "dg") ?_)
  | ((with_reducible show SV _ _ (tAsg _ (gName _)) _ _); refine sv_setV (by walk_at "dv") (by walk_at "dt") ?_)
  | ((with_reducible show SV _ _ (tPar _ _ _) _ _); refine sv_par (by walk_at "dv") (by walk_at "dt") ?_)
  | ((with_reducible show SV _ _ (tRaise0 _ _) _ _); refine sv_raise0 ?_)
  | ((with_reducible show SV _ _ (tRaise1 _ _ _ _) _ _); refine sv_raise1 (by walk_at "dv") (by walk_at "dt") ?_)
  | ((with_reducible refine thn_nx ?_); try dsimp only [List.set]))
local macro_rules | `(tactic| walk_at "sx") => `(tactic| first | (intro hx; exact absurd hx (by decide)) | (intro hx; exfalso; simp at hx))
local macro_rules | `(tactic| walk_at "bo") => `(tactic| (simp only [Bool.or_eq_true, Bool.not_eq_true', Bool.and_eq_false_iff, Bool.or_eq_false_iff, Bool.not_eq_false', decide_eq_false_iff_not, decide_eq_true_eq, Bool.and_eq_true, Bool.eq_false_iff, ne_eq, Bool.true_and, Bool.and_true] at * <;> omega))
section
variable {P : Program} {w : World} {K : Frag} {mg : Str → Option Value} {base : Heap} {cS cI cU cT cM cD cNU cNR : Addr}
theorem R_lmoved_mk {side x y c a b q : Int} (h0 : 0 < side) (h1 : 0 ≤ q) (h2 : q ≤ 3) : R_lmoved [.int side, .tup [.int x, .int y, .int c], .tup [.int a, .int b, .int q]] (.ret (tupD (movK side a b q [x, y, c]))) := ⟨_, _, _, _, _, _, _, rfl, h0, h1, h2, rfl⟩
theorem star3 {k : List Int} (h : k.length = 3) : ∃ x y c, k = [x, y, c] := by
  match k, h with
  | [a, b, c], _ => exact ⟨a, b, c, rfl⟩
theorem movK_bd {side a b q : Int} {k : List Int} (h0 : 0 < side) (h9 : side ≤ 9) (h : k.length = 3 ∧ TS.Bd 64 k) : (movK side a b q k).length = 3 ∧ TS.Bd 64 (movK side a b q k) := by
  obtain ⟨x, y, c, rfl⟩ := star3 h.1
  refine ⟨rfl, fun m hm => ?_⟩
  have e : ∀ z : Int, 0 ≤ z % side ∧ z % side < 64 := fun z => ⟨Int.emod_nonneg _ (by omega), by have := Int.emod_lt_of_pos z h0; omega⟩
  simp only [movK, movP, List.cons_append, List.nil_append, List.mem_cons, List.not_mem_nil, or_false] at hm
  rcases hm with rfl | rfl | rfl
  · exact e _
  · exact e _
  · exact h.2 _ (by simp)
theorem f_behind {f : Addr} {fd : FuncData} (F : Fun K "_law_behind" "_law_behind" s__law_behind f fd) (g_len : mg "len" = none) (g_sorted : mg "sorted" = none) (h__law_is_camera : DefN P w K mg base 1 "_law_is_camera" (spF K R_is_camera)) (h__law_moved : DefN P w K mg base 2 "_law_moved" (spF K R_lmoved)) : FnOk P w K mg base (L2.CX P w) 3 f fd ["_law_parts_here", "_law_deed_here"] (spF K R_behind) := by
  refine fnF F sc__law_behind ?_ fun cdv A outer s H E hr => ?_
  rotate_left
  have tk : Takes (cx P w K mg base N__law_behind "_law_behind" s__law_behind f cdv A outer s H E) (wE E) := takes_of rfl rfl rfl rfl
  have po : PassesOwn (model (cx P w K mg base N__law_behind "_law_behind" s__law_behind f cdv A outer s H E).prog (cx P w K mg base N__law_behind "_law_behind" s__law_behind f cdv A outer s H E).w) (cx P w K mg base N__law_behind "_law_behind" s__law_behind f cdv A outer s H E).A (cx P w K mg base N__law_behind "_law_behind" s__law_behind f cdv A outer s H E).env (cx P w K mg base N__law_behind "_law_behind" s__law_behind f cdv A outer s H E).xe := passes_of (X := cx P w K mg base N__law_behind "_law_behind" s__law_behind f cdv A outer s H E) rfl
  have sc := sc__law_behind
  refine ⟨_, (pss_cons (ps_asg (pv 0) (pg_tup rfl (pgs_cons (pg_name (i := 2) sc.nd rfl (Or.inr rfl)) (pgs_cons (pg_name (i := 3) sc.nd rfl (Or.inl rfl)) (pgs_cons (pg_name (i := 4) sc.nd rfl (Or.inl rfl)) pgs_nil)))))
    (pss_cons (ps_if (pt_cmpR (op_eqD hr.units) (pe_ix ix_seq (pv 1) pe_int (fun _ _ => rfl)) pe_str (nomark _)) (pss_cons (ps_if (pt_cmpR (u_in (u65 hr)) (pe_ix ix_seq (pv 1) pe_int (fun _ _ => rfl)) (pv 3) (by rfl)) (pss_one (ps_ret (pe_tup (pa_cons pe_str (pa_cons (pe_ix ix_seq (pv 1) pe_int (fun _ _ => rfl)) pa_nil))))) pss_nil)
    (pss_cons (ps_set (i := 5) sc.nd rfl (Or.inl rfl) (pe_and (pe_chain op_le op_lt pe_int (pe_ix ix_seq (pe_ix ix_seq (pv 1) pe_int (fun _ _ => rfl)) pe_int (fun _ _ => rfl)) (pv 2)) (pe_and (pe_chain op_le op_lt pe_int (pe_ix ix_seq (pe_ix ix_seq (pv 1) pe_int (fun _ _ => rfl)) pe_int (fun _ _ => rfl)) (pv 2)) (pe_and (pe_chain op_le op_le pe_int (pe_ix ix_seq (pe_ix ix_seq (pv 1) pe_int (fun _ _ => rfl)) pe_int (fun _ _ => rfl)) pe_int) (pe_one (pe_cmpR op_lt (pe_callB u_len (by rfl) g_len (by decide +kernel) (pa_cons (pv 3) pa_nil)) pe_int (nomark _)))))))
    (pss_one (ps_ret (pe_ifExp (pt_truth (pv 5) (by intro _; rfl)) (pe_tup (pa_cons (pv 2) (pa_cons (pe_callB u_sorted (by rfl) g_sorted (by decide +kernel) (pa_cons (pe_op u_add (pv 3) (pe_lst (pa_cons (pe_ix ix_seq (pv 1) pe_int (fun _ _ => rfl)) pa_nil))) pa_nil)) (pa_cons (pv 4) pa_nil)))) (pe_tup (pa_cons pe_str (pa_cons pe_non pa_nil)))))))) pss_nil)
    (pss_cons (ps_if (pt_cmpR (op_eqD hr.units) (pe_ix ix_seq (pv 1) pe_int (fun _ _ => rfl)) pe_str (nomark _)) (pss_cons (ps_if (pt_not (pt_chain op_le op_lt pe_int (pe_ix ix_seq (pv 1) pe_int (fun _ _ => rfl)) (pe_callB u_len (by rfl) g_len (by decide +kernel) (pa_cons (pv 3) pa_nil)))) (pss_one (ps_ret (pe_tup (pa_cons pe_str (pa_cons (pe_ix ix_seq (pv 1) pe_int (fun _ _ => rfl)) pa_nil))))) pss_nil)
    (pss_one (ps_ret (pe_tup (pa_cons (pv 2) (pa_cons (pe_op u_add (pe_slice u_sl (pv 3) po_none (po_some (pe_ix ix_seq (pv 1) pe_int (fun _ _ => rfl)))) (pe_slice u_sl (pv 3) (po_some (pe_op u_add (pe_ix ix_seq (pv 1) pe_int (fun _ _ => rfl)) pe_int)) po_none)) (pa_cons (pv 4) pa_nil))))))) pss_nil)
    (pss_cons (ps_if (pt_cmpR (op_eqD hr.units) (pe_ix ix_seq (pv 1) pe_int (fun _ _ => rfl)) pe_str (nomark _)) (pss_one (ps_ret (pe_ifExp (pt_truth (u_call h__law_is_camera tk hr (by first | decide | omega) rfl (pa_cons (pv 2) (pa_cons (pe_ix ix_seq (pv 1) pe_int (fun _ _ => rfl)) pa_nil))) (by intro _; rfl)) (pe_tup (pa_cons (pv 2) (pa_cons (pv 3) (pa_cons (pe_ix ix_seq (pv 1) pe_int (fun _ _ => rfl)) pa_nil)))) (pe_tup (pa_cons pe_str (pa_cons pe_non pa_nil)))))) pss_nil)
    (pss_cons (ps_if (PW.pt (pw_or (pt_not (pt_chain op_le op_lt pe_int (pe_ix ix_seq (pe_ix ix_seq (pv 1) pe_int (fun _ _ => rfl)) pe_int (fun _ _ => rfl)) (pv 2))) (pw_or (pt_not (pt_chain op_le op_lt pe_int (pe_ix ix_seq (pe_ix ix_seq (pv 1) pe_int (fun _ _ => rfl)) pe_int (fun _ _ => rfl)) (pv 2))) (pw_or1 (pt_not (pt_chain op_le op_le pe_int (pe_ix ix_seq (pe_ix ix_seq (pv 1) pe_int (fun _ _ => rfl)) pe_int (fun _ _ => rfl)) pe_int)))))) (pss_one (ps_ret (pe_tup (pa_cons pe_str (pa_cons (pe_ix ix_seq (pv 1) pe_int (fun _ _ => rfl)) pa_nil))))) pss_nil)
    (pss_one (ps_ret (pe_tup (pa_cons (pv 2) (pa_cons (pe_callB u_sorted (by rfl) g_sorted (by decide +kernel) (pa_cons (pe_lc (own := [("_law_star", 6)]) (g := gName 6) (tt := _) rfl sc.nd (pi_U (pv 3)) (blkOk_by (N := N__law_behind) (sc := defScope s__law_behind) (by decide +kernel)) (fun _ _ _ _ _ => (pg_name (i := 6) sc.nd rfl (Or.inl rfl))) (fun _ _ _ _ _ => pts_nil) (fun _ _ _ _ _ => (u_call h__law_moved takes0 hr (by first | decide | omega) rfl (pa_cons (pv 2) (pa_cons (pv 6) (pa_cons (pe_ix (ix_seqK K) (pv 1) pe_int (fun _ _ => rfl)) pa_nil)))))) pa_nil)) (pa_cons (pv 4) pa_nil))))))))))), ?_⟩
  try simp only [show (cx P w K mg base N__law_behind "_law_behind" s__law_behind f cdv A outer s H E).K = K from rfl, show (cx P w K mg base N__law_behind "_law_behind" s__law_behind f cdv A outer s H E).prog = P from rfl, show (cx P w K mg base N__law_behind "_law_behind" s__law_behind f cdv A outer s H E).w = w from rfl]
  clear tk po sc
  · rintro ds r ⟨s, d, rfl, hf, hd, rfl⟩
    obtain ⟨hk3, hcs, h4, h9, hlen⟩ := hf
    simp only [start0, Sk.d, List.map_cons, List.map_nil, List.length_cons, List.length_nil, Nat.reduceAdd, Nat.reduceSub, List.reduceReplicate, List.cons_append, List.nil_append]
    refine sv_seq (sv_tup (ee_of (by walk_at "dv") .st) (by rfl) (by walk_at "dg") (thn_nx (sv_seq ?_)))
    dsimp only [List.set]
    have hmap : ((s.kss.map tupD).length : Int) = s.kss.length := by rw [List.length_map]
    cases d with
    | star x y b =>
      simp only [Dd.d, tupD, List.map_cons, List.map_nil]
      refine sv_if (by walk_at "dv") ?_ ?_
      rotate_left
      · walk_at "sx"
      intro _
      refine sv_seq (sv_if (by walk_at "dv") ?_ ?_)
      · intro h
        have h' : decide ([x, y, b] ∈ s.kss) = true := by rw [← memD_tupD]; exact h
        refine sv_retV (by walk_at "dv") (by walk_at "dt") ?_
        have e : behM s (.star x y b) = .no "taken" (tupD [x, y, b]) := if_pos h'
        rw [e]
        rfl
      · intro h
        have h' : decide ([x, y, b] ∈ s.kss) = false := by rw [← memD_tupD]; exact h
        refine sv_next (thn_nx (sv_seq (sv_setV (by walk_at "dv") (by walk_at "dt") (thn_nx ?_))))
        dsimp only [List.set]
        have e0 : behM s (.star x y b) = if goodB s.side x y b s.kss.length = true then .ok (withS s [x, y, b]).mk' else .no "sky" .non := if_neg (by rw [h']; decide)
        rw [e0]
        by_cases hg : goodB s.side x y b s.kss.length = true
        · rw [if_pos hg]
          have hg2 := hg
          unfold goodB at hg2
          simp only [Bool.and_eq_true, decide_eq_true_eq] at hg2
          have hk3' : Kss 3 (s.kss ++ [[x, y, b]]) := fun k hk => by
            rcases List.mem_append.mp hk with hk | hk
            · exact hk3 k hk
            · rw [List.mem_singleton.mp hk]
              refine ⟨rfl, fun m hm => ?_⟩
              simp only [List.mem_cons, List.not_mem_nil, or_false] at hm
              rcases hm with rfl | rfl | rfl <;> omega
          have e1 : s.kss.map tupD ++ [D.tup [.int x, .int y, .int b]] = (s.kss ++ [[x, y, b]]).map tupD := by rw [List.map_append]; rfl
          refine sv_retV (ev_if (c := true) (tv_is (by walk_at "dv") ?_) (fun _ => ev_tup (av_cons (by walk_at "dv") (av_cons (ev_cb (av_cons (ev_is (ev_op (by walk_at "dv") (by walk_at "dv") (add_lst .st .fr (by rw [List.length_map, sizeLine_eq]; show _ + 1 ≤ _; omega))) (congrArg Vd.fr e1)) av_nil) (sort_lst .fr hk3' (by rw [List.length_append]; show _ + 1 < _; omega))) (av_cons (by walk_at "dv") av_nil))) (by walk_at "dt") (Nat.le_of_ble_eq_true rfl)) (fun z => nomatch z)) .st ?_
          · rw [hmap]
            exact hg
          · rfl
        · rw [if_neg hg]
          refine sv_retV (ev_if (c := false) (tv_is (by walk_at "dv") ?_) (fun z => nomatch z) (fun _ => by walk_at "dv")) .st ?_
          · rw [hmap]
            exact Bool.eq_false_iff.mpr hg
          · rfl
    | noStar n =>
      simp only [Dd.d, tupD, List.map_cons, List.map_nil]
      refine sv_if (by walk_at "dv") ?_ ?_
      · walk_at "sx"
      intro _
      refine sv_next (thn_nx (sv_seq (sv_if (by walk_at "dv") ?_ ?_)))
      rotate_left
      · walk_at "sx"
      intro _
      refine sv_seq (sv_if (by walk_at "dv") ?_ ?_)
      · intro h
        rw [Bool.not_eq_true', hmap] at h
        refine sv_retV (by walk_at "dv") (by walk_at "dt") ?_
        have e : behM s (.noStar n) = .no "star" (.int n) := if_neg (by unfold inB; rw [h]; decide)
        rw [e]
        rfl
      · intro h
        rw [Bool.not_eq_false', hmap] at h
        have h2 := h
        simp only [Bool.and_eq_true, decide_eq_true_eq] at h2
        obtain ⟨m, rfl⟩ : ∃ m : Nat, n = m := ⟨n.toNat, by omega⟩
        have hm : m < s.kss.length := by omega
        have e : behM s (.noStar m) = .ok (dropS s m) := if_pos h
        rw [e]
        have hml : (s.kss.map tupD).length = s.kss.length := List.length_map _
        refine sv_next (thn_nx (sv_retV (ev_tup (av_cons (by walk_at "dv") (av_cons (ev_op (ev_sl (by walk_at "dv") ov_none (ov_some (by walk_at "dv")) (sl_preL (ds := s.kss.map tupD) (k := m) .st (by omega))) (ev_sl (by walk_at "dv") (ov_some (ev_op (by walk_at "dv") (by walk_at "dv") add_int)) ov_none (sl_sufL (ds := s.kss.map tupD) (k := m + 1) .st (by omega))) (add_lst .fr .fr (by rw [List.length_take, List.length_drop, sizeLine_eq]; omega))) (av_cons (by walk_at "dv") av_nil))) (by walk_at "dt") (Nat.le_of_ble_eq_true rfl)) .st ?_))
        show Res.ret _ = Res.ret _
        unfold Bh.d Sk.d dropS
        dsimp only
        rw [List.map_append, List.map_take, List.map_drop]
    | cam c =>
      simp only [Dd.d]
      refine sv_if (by walk_at "dv") ?_ ?_
      · walk_at "sx"
      intro _
      refine sv_next (thn_nx (sv_seq (sv_if (by walk_at "dv") ?_ ?_)))
      · walk_at "sx"
      intro _
      refine sv_next (thn_nx (sv_seq (sv_if (by walk_at "dv") ?_ ?_)))
      rotate_left
      · walk_at "sx"
      intro _
      have hc : EV K (tCallS (spF K R_is_camera) (WE (wE E)) (tCons (tVar 2) (tCons (tOp (rIx K) (tVar 1) (tC (.int 1))) tNil))) [Sl.im (.tup [.int s.side, .lst (s.kss.map tupD), s.cam.d]), Sl.im (.tup [.str "camera", c.d]), Sl.im (.int s.side), Sl.im (.lst (s.kss.map tupD)), Sl.im s.cam.d, Sl.un, Sl.un] (.st (.bl (camB s.side c.r c.b c.g c.l))) :=
        ev_call (by walk_at "dv") (by walk_at "dt") (R_is_camera_mk hd.1 hd.2)
      by_cases hg : camB s.side c.r c.b c.g c.l = true
      · have e : behM s (.cam c) = .ok (withC s c) := if_pos hg
        rw [e]
        rw [hg] at hc
        exact sv_retV (ev_if (c := true) (tv_truB hc) (fun _ => by walk_at "dv") (fun z => nomatch z)) .st rfl
      · have e : behM s (.cam c) = .no "sky" .non := if_neg hg
        rw [e]
        rw [Bool.eq_false_iff.mpr hg] at hc
        exact sv_retV (ev_if (c := false) (tv_truB hc) (fun z => nomatch z) (fun _ => by walk_at "dv")) .st rfl
    | move a b q =>
      simp only [Dd.d, tupD, List.map_cons, List.map_nil]
      refine sv_if (by walk_at "dv") ?_ ?_
      · walk_at "sx"
      intro _
      refine sv_next (thn_nx (sv_seq (sv_if (by walk_at "dv") ?_ ?_)))
      · walk_at "sx"
      intro _
      refine sv_next (thn_nx (sv_seq (sv_if (by walk_at "dv") ?_ ?_)))
      · walk_at "sx"
      intro _
      refine sv_next (thn_nx (sv_seq (sv_if (by walk_at "dv") ?_ ?_)))
      · intro h
        refine sv_retV (by walk_at "dv") (by walk_at "dt") ?_
        have e : behM s (.move a b q) = .no "motion" (tupD [a, b, q]) := if_neg (by
          unfold motB
          intro z
          simp only [Bool.or_eq_true, Bool.not_eq_true', Bool.and_eq_false_iff, decide_eq_false_iff_not, decide_eq_true_eq, Bool.and_eq_true] at h z
          omega)
        rw [e]
        rfl
      · intro h
        have h2 : motB s.side a b q = true := by
          unfold motB
          simp only [Bool.or_eq_false_iff, Bool.not_eq_false', decide_eq_true_eq, Bool.and_eq_true] at h ⊢
          exact ⟨h.1, h.2.1, h.2.2⟩
        have e : behM s (.move a b q) = .ok (movS s a b q).mk' := if_pos h2
        rw [e]
        unfold motB at h2
        simp only [Bool.and_eq_true, decide_eq_true_eq] at h2
        have hp : 0 < s.side := by omega
        have hk3' : Kss 3 (movS s a b q).kss := fun k hk => by
          obtain ⟨k0, h0, rfl⟩ := List.mem_map.mp hk
          exact movK_bd hp h9 (hk3 k0 h0)
        have e1 : (s.kss.filter fun _ => true).map (fun k => tupD (movK s.side a b q k)) = (movS s a b q).kss.map tupD := by
          rw [List.filter_eq_self.mpr (fun _ _ => rfl)]
          unfold movS
          rw [List.map_map]
          rfl
        refine sv_next (thn_nx (sv_retV (ev_tup (av_cons (by walk_at "dv") (av_cons (ev_cb (av_cons (ev_is (ev_lcL s.kss tupD (fun _ => true) (fun k => tupD (movK s.side a b q k)) (by walk_at "dv") .st (by rw [sizeLine_eq]; omega) fun k hk => ?_) (congrArg Vd.fr e1)) av_nil) (sort_lst .fr hk3' (by show (s.kss.map _).length < 64; rw [List.length_map]; omega))) (av_cons (by walk_at "dv") av_nil))) (by walk_at "dt") (Nat.le_of_ble_eq_true rfl)) .st ?_))
        · obtain ⟨x, y, c, rfl⟩ := star3 (hk3 k hk).1
          exact ⟨_, gw_name (by decide), tv_yes, fun _ => ⟨_, ev_call (ds := [.int s.side, .tup [.int x, .int y, .int c], .tup [.int a, .int b, .int q]]) (av_cons (by walk_at "dv") (av_cons (ev_var rfl) (av_cons (by walk_at "dv") av_nil))) (.cons .st (.cons .st (.cons .st .nil))) (R_lmoved_mk hp h2.2.2.1 h2.2.2.2), .st⟩⟩
        · rfl
  · rintro ds r ⟨s, d, rfl, hf, hd, rfl⟩
    rfl
end
end DL

set_option maxRecDepth 100000
set_option maxHeartbeats 400000
namespace DL
open PySem L2
local macro_rules | `(tactic| walk_at "ds") => `(tactic| first | with_reducible assumption | exact eqok_tupD _ | exact eqok_kss _ | exact eqok3 | with_unfolding_all exact Eq.refl _ | exact Nat.le_of_ble_eq_true (Eq.refl true) | omega | decide | exact cdivW (by omega))
local macro_rules | `(tactic| walk_at "dv") => `(tactic| first
  | ((with_reducible show EV _ (tVar _) _ _); first | exact ev_var (by with_unfolding_all exact Eq.refl _) | exact ev_own (by with_unfolding_all exact Eq.refl _) | exact ev_ownI (by with_unfolding_all exact Eq.refl _))
  | ((with_reducible show EV _ (tC _) _ _); with_reducible first | exact ev_int | exact ev_str | exact ev_bl | exact ev_non)
  | ((with_reducible show EV _ (tOp _ _ _) _ _); exact ev_op (by walk_at "dv") (by walk_at "dv") (by walk_at "do"))
  | ((with_reducible show EV _ (tUn _ _) _ _); exact ev_un (by walk_at "dv") (by with_reducible exact neg_int))
  | ((with_reducible show EV _ (tChain _ _ _ _ _) _ _); exact ev_chain (by walk_at "dv") (by walk_at "dv") (by walk_at "do") (fun _ => by walk_at "dv") (fun _ => by walk_at "do"))
  | ((with_reducible show EV _ (tCB _ _) _ _); exact ev_cb (by walk_at "dv") (by walk_at "dc"))
  | ((with_reducible show EV _ (tAndV _ _) _ _); exact ev_andV (by walk_at "dv") (fun _ => by walk_at "dv"))
  | ((with_reducible show EV _ (tOrV _ _) _ _); exact ev_orV (by walk_at "dv") (fun _ => by walk_at "dv"))
  | ((with_reducible show EV _ (tNotV _) _ _); exact ev_notV (by walk_at "dv"))
  | ((with_reducible show EV _ (tIf _ _ _) _ _); exact ev_if (by walk_at "dv") (fun _ => by walk_at "dv") (fun _ => by walk_at "dv"))
  | ((with_reducible show EV _ (tSl _ _ _ _) _ _); exact ev_sl (by walk_at "dv") (by walk_at "dv") (by walk_at "dv") (by walk_at "dl"))
  | ((with_reducible show EV _ (tTup _) _ _); exact ev_tup (by walk_at "dv") (by walk_at "dt") (by walk_at "ds"))
  | ((with_reducible show EV _ (tLst _) _ _); exact ev_lst (by walk_at "dv") (by walk_at "dt") (by walk_at "ds"))
  | ((with_reducible show AV _ tNil _ _); exact av_nil)
  | ((with_reducible show AV _ (tCons _ _) _ _); exact av_cons (by walk_at "dv") (by walk_at "dv"))
  | ((with_reducible show OV _ tNoPart _ _); exact ov_none)
  | ((with_reducible show OV _ (tPart _) _ _); exact ov_some (by walk_at "dv"))
  | ((with_reducible show TV _ (tTest _) _ _); exact tv_test (by walk_at "dv"))
  | ((with_reducible show TV _ (tB _) _ _); exact tv_B (by walk_at "dv"))
  | ((with_reducible show TV _ (tNot _) _ _); exact tv_not (by walk_at "dv"))
  | ((with_reducible show TV _ (tAnd _ _) _ _); exact tv_and (by walk_at "dv") (fun _ => by walk_at "dv"))
  | ((with_reducible show TV _ (tOr _ _) _ _); exact tv_or (by walk_at "dv") (fun _ => by walk_at "dv"))
  | ((fail_if_success (with_reducible first | show TV _ (tTest _) _ _ | show TV _ (tB _) _ _ | show TV _ (tNot _) _ _ | show TV _ (tAnd _ _) _ _ | show TV _ (tOr _ _) _ _)); (with_reducible show TV _ _ _ _); exact tv_truB (by walk_at "dv"))
  | ((with_reducible show EV _ (tCallS _ _ _) _ _); exact ev_call (by walk_at "dv") (by walk_at "dt") (by walk_at "dr"))
  | ((with_reducible show EV _ (tFld _ _ _) _ _); exact ev_fld (by walk_at "dv") (by first | exact .st | exact .li | exact .fi) (by with_reducible assumption) (by with_reducible assumption) (by with_unfolding_all exact Eq.refl _))
  | ((with_reducible show EV _ (tProp _ _ _ _ _) _ _); exact ev_prop (by walk_at "dv") (by walk_at "dt") (by walk_at "dr"))
  | ((with_reducible show EV _ (tMethW _ _ _ _ _ _) _ _); exact ev_meth (by walk_at "dv") (by with_unfolding_all exact Eq.refl _) (by walk_at "dv") (by walk_at "dt") (by walk_at "dr")))
local macro_rules | `(tactic| walk_at "do") => `(tactic| with_reducible first
  | exact add_int | exact sub_int | exact lt_int | exact le_int | exact gt_int | exact ge_int
  | exact ix_lst .st (by assumption) | exact ix_lst .fr (by assumption) | exact ix_lst .ls (by assumption) | exact ix_tup (by assumption)
  | exact ix_tup (by with_unfolding_all exact Eq.refl _) | exact ix_lst .st (by with_unfolding_all exact Eq.refl _) | exact ix_lst .ls (by with_unfolding_all exact Eq.refl _) | exact ix_lst .fr (by with_unfolding_all exact Eq.refl _)
  | exact eq_int | exact ne_int | exact eq_strV | exact eq_str (by walk_at "ds") (by walk_at "ds") | exact ne_str (by walk_at "ds") (by walk_at "ds")
  | exact eq_dat .st .st (by walk_at "ds") (by walk_at "ds") | exact ne_dat .st .st (by walk_at "ds") (by walk_at "ds")
  | exact notin_lst .st .ls (by walk_at "ds") (by walk_at "ds") | exact in_lst .st .st (by walk_at "ds") (by walk_at "ds") | exact in_lst .st .ls (by walk_at "ds") (by walk_at "ds")
  | exact in_tup .st (by walk_at "ds") (by walk_at "ds")
  | exact mul_int (by walk_at "ds") | exact mod_int (by walk_at "ds") | exact fdiv_int (by walk_at "ds"))
local macro_rules | `(tactic| walk_at "dc") => `(tactic| with_reducible first
  | exact len_tup | exact len_lst .st | exact len_lst .ls | exact len_lst .fr
  | exact abs_int | exact max2_int | exact min2_int | exact min3_int | exact int_int | exact int_bl
  | exact list_tup | exact list_lst .st | exact list_lst .ls | exact list_lst .fr
  | exact all_bls .st | exact all_bls .ls | exact all_bls .fr)
local macro_rules | `(tactic| walk_at "dt") => `(tactic| first
  | ((with_reducible show Stb (Vd.st _) _); exact Stb.st)
  | ((with_reducible show Stb (Vd.fr _) _); exact Stb.fr)
  | ((with_reducible show Stb (Vd.fi _ _) _); exact Stb.fi)
  | ((with_reducible show Stbs [] _); with_reducible exact Stbs.nil)
  | ((with_reducible show Stbs (_ :: _) _); exact Stbs.cons (by walk_at "dt") (by walk_at "dt")))
local macro_rules | `(tactic| walk_at "dg") => `(tactic| first
  | ((with_reducible show GV _ gNil _ _ _); with_reducible exact gv_nil)
  | ((with_reducible show GV _ (gCons (gName _) _) (_ :: _) _ _); exact gv_cons (by walk_at "dg")))
local macro_rules | `(tactic| walk_at "sv") => `(tactic| first
  | with_reducible refine sv_seq ?_
  | with_reducible refine sv_next ?_
  | ((with_reducible show SV _ _ (tIfS _ _ _) _ _); refine sv_if (by walk_at "dv") ?_ ?_)
  | ((with_reducible show SV _ _ (tRet _) _ _); refine sv_retV (by walk_at "dv") (by walk_at "dt") ?_)
  | ((with_reducible show SV _ _ (tAsg _ (gTup _ _ _)) _ _); refine sv_tup (ee_of (by walk_at "dv") (by walk_at "dt")) (by rfl) (by walk_at "dg") ?_)
  | ((with_reducible show SV _ _ (tAsg _ (gName _)) _ _); refine sv_setV (by walk_at "dv") (by walk_at "dt") ?_)
  | ((with_reducible show SV _ _ (tPar _ _ _) _ _); refine sv_par (by walk_at "dv") (by walk_at "dt") ?_)
  | ((with_reducible show SV _ _ (tRaise0 _ _) _ _); refine sv_raise0 ?_)
  | ((with_reducible show SV _ _ (tRaise1 _ _ _ _) _ _); refine sv_raise1 (by walk_at "dv") (by walk_at "dt") ?_)
  | ((with_reducible refine thn_nx ?_); try dsimp only [List.set]))
local macro_rules | `(tactic| walk_at "sx") => `(tactic| first | (intro hx; exact absurd hx (by decide)) | (intro hx; exfalso; simp at hx))
local macro_rules | `(tactic| walk_at "bo") => `(tactic| (simp only [Bool.or_eq_true, Bool.not_eq_true', Bool.and_eq_false_iff, Bool.or_eq_false_iff, Bool.not_eq_false', decide_eq_false_iff_not, decide_eq_true_eq, Bool.and_eq_true, Bool.eq_false_iff, ne_eq, Bool.true_and, Bool.and_true] at * <;> omega))
section
variable {P : Program} {w : World} {K : Frag} {mg : Str → Option Value} {base : Heap} {cS cI cU cT cM cD cNU cNR : Addr}
def b2 (c : Bool) : Int := if c = true then 1 else 0
def ofStar : List Int → Dd
  | [x, y, b] => .star x y b
  | _ => .noStar 0
def deedM (s : Sk) (ns : List Int) (at' : Nat) : Dd :=
  let kind := ns.getD at' 0 % 4
  let one := ns.getD (at' + 1) 0
  let two := ns.getD (at' + 1 + 1) 0
  let three := ns.getD (at' + 1 + 2) 0
  let four := ns.getD (at' + 1 + 3) 0
  if (decide (kind = 0) && (decide (one % 5 = 0) && decide (0 < (s.kss.length : Int)))) = true then ofStar (s.kss.getD (two % (s.kss.length : Int)).toNat [])
  else if decide (kind = 0) = true then .star (one % s.side) (two % s.side) (three % 10 + b2 (decide (0 < four % 7)) - b2 (decide (three % 10 = 9) && decide (1 < four % 7)))
  else if decide (kind = 1) = true then .noStar (one % ((s.kss.length : Int) + 1) - b2 (decide (two % 6 = 0)))
  else if decide (kind = 2) = true then .cam ⟨one % 4, two % 3 * (three % 2), three % 3, 1 + four % 9⟩
  else .move (one % s.side + s.side * b2 (decide (three % 7 = 6))) (two % s.side) (four % 4)
def R_deed (ds : List D) (r : Res) : Prop := ∃ (s : Sk) (ns : List Int) (at' : Nat), ds = [s.d, .lst (ns.map D.int), .int at'] ∧ s.fine ∧ at' + 4 < ns.length ∧ r = .ret (deedM s ns at').d
theorem f_deed {f : Addr} {fd : FuncData} (F : Fun K "_law_deed" "_law_deed" s__law_deed f fd) (g_len : mg "len" = none) (g_int : mg "int" = none) (g_range : mg "range" = none) : FnOk P w K mg base (L2.CX P w) 1 f fd ["_law_parts_here", "_law_numbers_here", "_law_at"] (spF K R_deed) := by
  refine fnF F sc__law_deed ?_ fun cdv A outer s H E hr => ?_
  rotate_left
  have tk : Takes (cx P w K mg base N__law_deed "_law_deed" s__law_deed f cdv A outer s H E) (wE E) := takes_of rfl rfl rfl rfl
  have po : PassesOwn (model (cx P w K mg base N__law_deed "_law_deed" s__law_deed f cdv A outer s H E).prog (cx P w K mg base N__law_deed "_law_deed" s__law_deed f cdv A outer s H E).w) (cx P w K mg base N__law_deed "_law_deed" s__law_deed f cdv A outer s H E).A (cx P w K mg base N__law_deed "_law_deed" s__law_deed f cdv A outer s H E).env (cx P w K mg base N__law_deed "_law_deed" s__law_deed f cdv A outer s H E).xe := passes_of (X := cx P w K mg base N__law_deed "_law_deed" s__law_deed f cdv A outer s H E) rfl
  have sc := sc__law_deed
  refine ⟨_, (pss_cons (ps_asg (pv 0) (pg_tup rfl (pgs_cons (pg_name (i := 3) sc.nd rfl (Or.inl rfl)) (pgs_cons (pg_name (i := 4) sc.nd rfl (Or.inl rfl)) (pgs_cons (pg_name (i := 5) sc.nd rfl (Or.inl rfl)) pgs_nil)))))
    (pss_cons (ps_set (i := 6) sc.nd rfl (Or.inl rfl) (pe_op op_mod (pe_callTy call_int1 (by rfl) g_int (by decide +kernel) (pa_cons (pe_ix ix_seq (pv 1) (pv 2) (fun _ _ => rfl)) pa_nil)) pe_int))
    (pss_cons (ps_asg (pe_lc (own := [("_law_k", 11)]) (g := gName 11) (tt := _) rfl sc.nd (pi_range1 (by rfl) g_range (pa_cons pe_int pa_nil)) (blkOk_by (N := N__law_deed) (sc := defScope s__law_deed) (by decide +kernel)) (fun _ _ _ _ _ => (pg_name (i := 11) sc.nd rfl (Or.inl rfl))) (fun _ _ _ _ _ => pts_nil) (fun _ _ _ _ _ => (pe_callTy call_int1 (by rfl) g_int (by decide +kernel) (pa_cons (pe_ix (ix_seqK K) (pv 1) (pe_op (u_addK K) (pe_op (u_addK K) (pv 2) pe_int) (pv 11)) (fun _ _ => rfl)) pa_nil)))) (pg_unl rfl (pgs_cons (pg_name (i := 7) sc.nd rfl (Or.inl rfl)) (pgs_cons (pg_name (i := 8) sc.nd rfl (Or.inl rfl)) (pgs_cons (pg_name (i := 9) sc.nd rfl (Or.inl rfl)) (pgs_cons (pg_name (i := 10) sc.nd rfl (Or.inl rfl)) pgs_nil))))))
    (pss_cons (ps_if (PW.pt (pw_and (pt_cmpR (op_eqD hr.units) (pv 6) pe_int (nomark _)) (pw_and (pt_cmpR (op_eqD hr.units) (pe_op op_mod (pv 7) pe_int) pe_int (nomark _)) (pw_and1 (pt_cmpR op_gt (pe_callB u_len (by rfl) g_len (by decide +kernel) (pa_cons (pv 4) pa_nil)) pe_int (nomark _)))))) (pss_one (ps_ret (pe_tup (pa_cons pe_str (pa_cons (pe_ix ix_seq (pv 4) (pe_op op_mod (pv 8) (pe_callB u_len (by rfl) g_len (by decide +kernel) (pa_cons (pv 4) pa_nil))) (fun _ _ => rfl)) pa_nil))))) pss_nil)
    (pss_cons (ps_if (pt_cmpR (op_eqD hr.units) (pv 6) pe_int (nomark _)) (pss_one (ps_ret (pe_tup (pa_cons pe_str (pa_cons (pe_tup (pa_cons (pe_op op_mod (pv 7) (pv 3)) (pa_cons (pe_op op_mod (pv 8) (pv 3)) (pa_cons (pe_op op_sub (pe_op u_add (pe_op op_mod (pv 9) pe_int) (pe_callTy call_int1 (by rfl) g_int (by decide +kernel) (pa_cons (pe_cmpR op_gt (pe_op op_mod (pv 10) pe_int) pe_int (nomark _)) pa_nil))) (pe_callTy call_int1 (by rfl) g_int (by decide +kernel) (pa_cons (pe_and (pe_cmpR (op_eqD hr.units) (pe_op op_mod (pv 9) pe_int) pe_int (nomark _)) (pe_one (pe_cmpR op_gt (pe_op op_mod (pv 10) pe_int) pe_int (nomark _)))) pa_nil))) pa_nil)))) pa_nil))))) pss_nil)
    (pss_cons (ps_if (pt_cmpR (op_eqD hr.units) (pv 6) pe_int (nomark _)) (pss_one (ps_ret (pe_tup (pa_cons pe_str (pa_cons (pe_op op_sub (pe_op op_mod (pv 7) (pe_op u_add (pe_callB u_len (by rfl) g_len (by decide +kernel) (pa_cons (pv 4) pa_nil)) pe_int)) (pe_callTy call_int1 (by rfl) g_int (by decide +kernel) (pa_cons (pe_cmpR (op_eqD hr.units) (pe_op op_mod (pv 8) pe_int) pe_int (nomark _)) pa_nil))) pa_nil))))) pss_nil)
    (pss_cons (ps_if (pt_cmpR (op_eqD hr.units) (pv 6) pe_int (nomark _)) (pss_one (ps_ret (pe_tup (pa_cons pe_str (pa_cons (pe_tup (pa_cons (pe_op op_mod (pv 7) pe_int) (pa_cons (pe_op op_mulW (pe_op op_mod (pv 8) pe_int) (pe_callTy call_int1 (by rfl) g_int (by decide +kernel) (pa_cons (pe_op op_mod (pv 9) pe_int) pa_nil))) (pa_cons (pe_op op_mod (pv 9) pe_int) (pa_cons (pe_op u_add pe_int (pe_op op_mod (pv 10) pe_int)) pa_nil))))) pa_nil))))) pss_nil)
    (pss_one (ps_ret (pe_tup (pa_cons pe_str (pa_cons (pe_tup (pa_cons (pe_op u_add (pe_op op_mod (pv 7) (pv 3)) (pe_op op_mulW (pv 3) (pe_callTy call_int1 (by rfl) g_int (by decide +kernel) (pa_cons (pe_cmpR (op_eqD hr.units) (pe_op op_mod (pv 9) pe_int) pe_int (nomark _)) pa_nil)))) (pa_cons (pe_op op_mod (pv 8) (pv 3)) (pa_cons (pe_op op_mod (pv 10) pe_int) pa_nil)))) pa_nil)))))))))))), ?_⟩
  try simp only [show (cx P w K mg base N__law_deed "_law_deed" s__law_deed f cdv A outer s H E).K = K from rfl, show (cx P w K mg base N__law_deed "_law_deed" s__law_deed f cdv A outer s H E).prog = P from rfl, show (cx P w K mg base N__law_deed "_law_deed" s__law_deed f cdv A outer s H E).w = w from rfl]
  clear tk po sc
  · rintro ds r ⟨s, ns, at', rfl, hf, hn, rfl⟩
    obtain ⟨hk3, hcs, h4, h9, hlen⟩ := hf
    simp only [start0, Sk.d, List.map_cons, List.map_nil, List.length_cons, List.length_nil, Nat.reduceAdd, Nat.reduceSub, List.reduceReplicate, List.cons_append, List.nil_append]
    have hix : ∀ (i : Int) (j : Nat), i = j → j < ns.length → atI (ns.map D.int) i = some (.int (ns.getD j 0)) := fun i j e h => by
      subst e
      have := atI_map D.int (0 : Int) (n := (j : Int)) (xs := ns) (by omega) (by omega)
      rw [Int.toNat_natCast] at this
      exact this
    have i0 := hix at' at' rfl (by omega)
    have p4 : (0 : Int) < 4 := by decide
    refine sv_seq (sv_tup (ee_of (by walk_at "dv") .st) (by rfl) (by walk_at "dg") (thn_nx (sv_seq ?_)))
    dsimp only [List.set]
    refine sv_setV (by walk_at "dv") (by walk_at "dt") (thn_nx (sv_seq ?_))
    dsimp only [List.set]
    have hcomp : EV K (tLc (iRng1 (tCons (tC (V.int 4)) tNil)) (gName 11) tYes
        (tCB (fun xs H Q => (∃ i, xs = [V.int i] ∧ Q (V.int i) H) ∨ ∃ k, xs = [V.bl k] ∧ Q (V.int (if k = true then 1 else 0)) H)
          (tCons (tOp (rIx K) (tVar 1) (tOp (rAddU K) (tOp (rAddU K) (tVar 2) (tC (V.int 1))) (tVar 11))) tNil)) [11])
        [Sl.im (D.tup [D.int s.side, D.lst (List.map tupD s.kss), s.cam.d]), Sl.im (D.lst (List.map D.int ns)), Sl.im (D.int at'), Sl.im (D.int s.side), Sl.im (D.lst (List.map tupD s.kss)), Sl.im s.cam.d, Sl.im (D.int (ns.getD at' 0 % 4)), Sl.un, Sl.un, Sl.un, Sl.un, Sl.un]
        (.fr [.int (ns.getD (at' + 1) 0), .int (ns.getD (at' + 1 + 1) 0), .int (ns.getD (at' + 1 + 2) 0), .int (ns.getD (at' + 1 + 3) 0)]) := by
      refine ev_is (ev_lcR1 4 (fun _ => true) (fun k => .int (ns.getD (at' + 1 + k) 0)) ev_int (by decide) (by decide) fun i hi => ?_) rfl
      have := hix (at' + 1 + i) (at' + 1 + i) (by omega) (by omega)
      exact ⟨_, gw_name (by decide), tv_yes, fun _ => ⟨_, ev_cb (av_cons (ev_op (ev_var rfl) (ev_op (ev_op (ev_var rfl) ev_int add_int) (ev_var rfl) add_int) (ix_lst .st this)) av_nil) int_int, .st⟩⟩
    refine sv_unl hcomp .fr (by rfl) (by walk_at "dg") (thn_nx (sv_seq ?_))
    dsimp only [List.set]
    generalize hkind : ns.getD at' 0 % 4 = kind
    generalize hone : ns.getD (at' + 1) 0 = one
    generalize htwo : ns.getD (at' + 1 + 1) 0 = two
    generalize hthr : ns.getD (at' + 1 + 2) 0 = three
    generalize hfour : ns.getD (at' + 1 + 3) 0 = four
    have hml : (((s.kss.map tupD).length : Nat) : Int) = s.kss.length := by rw [List.length_map]
    have hp : 0 < s.side := by omega
    refine sv_if (by walk_at "dv") ?_ ?_
    · intro h
      rw [hml] at h
      have h2 := h
      simp only [Bool.and_eq_true, decide_eq_true_eq] at h2
      have hq : 0 < (((s.kss.map tupD).length : Nat) : Int) := by rw [hml]; exact h2.2.2
      have e : deedM s ns at' = ofStar (s.kss.getD (two % (s.kss.length : Int)).toNat []) := by
        unfold deedM
        dsimp only
        rw [hkind, hone, htwo, if_pos h]
      have a1 := Int.emod_nonneg two (show (s.kss.length : Int) ≠ 0 by omega)
      have a2 := Int.emod_lt_of_pos two h2.2.2
      have hi : atI (s.kss.map tupD) (two % (((s.kss.map tupD).length : Nat) : Int)) = some (tupD (s.kss.getD (two % (s.kss.length : Int)).toNat [])) := by
        rw [hml]
        exact atI_map tupD [] a1 a2
      refine sv_retV (by walk_at "dv") (by walk_at "dt") ?_
      rw [e]
      have hmem : s.kss.getD (two % (s.kss.length : Int)).toNat [] ∈ s.kss := by
        have hlt : (two % (s.kss.length : Int)).toNat < s.kss.length := by omega
        rw [List.getD_eq_getElem?_getD, List.getElem?_eq_getElem hlt]
        exact List.getElem_mem hlt
      obtain ⟨x, y, c, ek⟩ := star3 (hk3 _ hmem).1
      rw [ek]
      rfl
    intro h
    rw [hml] at h
    have e1 : deedM s ns at' = if decide (kind = 0) = true then .star (one % s.side) (two % s.side) (three % 10 + b2 (decide (0 < four % 7)) - b2 (decide (three % 10 = 9) && decide (1 < four % 7)))
        else if decide (kind = 1) = true then .noStar (one % ((s.kss.length : Int) + 1) - b2 (decide (two % 6 = 0)))
        else if decide (kind = 2) = true then .cam ⟨one % 4, two % 3 * (three % 2), three % 3, 1 + four % 9⟩
        else .move (one % s.side + s.side * b2 (decide (three % 7 = 6))) (two % s.side) (four % 4) := by
      unfold deedM
      dsimp only
      rw [hkind, hone, htwo, hthr, hfour, if_neg (by rw [h]; decide)]
    rw [e1]
    have hmax : (2 : Nat) ^ 62 ≤ 2 ^ 400000 := Nat.pow_le_pow_right (by decide) (by decide)
    have m1 : CMulW (two % 3) (three % 2) := by
      have := Int.emod_nonneg two (show (3 : Int) ≠ 0 by decide)
      have := Int.emod_lt_of_pos two (show (0 : Int) < 3 by decide)
      have := Int.emod_nonneg three (show (2 : Int) ≠ 0 by decide)
      have := Int.emod_lt_of_pos three (show (0 : Int) < 2 by decide)
      exact mulW_of (Nat.lt_of_lt_of_le (by omega : _ < 2 ^ 62) hmax) (Nat.lt_of_lt_of_le (by omega : _ < 2 ^ 62) hmax)
    have m2 : CMulW s.side (if decide (three % 7 = 6) = true then 1 else 0) := by
      refine mulW_of (Nat.lt_of_lt_of_le (by omega : _ < 2 ^ 62) hmax) (Nat.lt_of_lt_of_le (?_ : _ < 2 ^ 62) hmax)
      split <;> decide
    refine sv_next (thn_nx (sv_seq (sv_if (by walk_at "dv") ?_ ?_)))
    · intro h1
      rw [if_pos h1]
      refine sv_retV (by walk_at "dv") (by walk_at "dt") rfl
    intro h1
    rw [if_neg (by rw [h1]; decide)]
    refine sv_next (thn_nx (sv_seq (sv_if (by walk_at "dv") ?_ ?_)))
    · intro h1
      rw [if_pos h1]
      refine sv_retV (by walk_at "dv") (by walk_at "dt") ?_
      rw [hml]
      rfl
    intro h1
    rw [if_neg (by rw [h1]; decide)]
    refine sv_next (thn_nx (sv_seq (sv_if (by walk_at "dv") ?_ ?_)))
    · intro h1
      rw [if_pos h1]
      refine sv_retV (by walk_at "dv") (by walk_at "dt") rfl
    intro h1
    rw [if_neg (by rw [h1]; decide)]
    refine sv_next (thn_nx (sv_retV (by walk_at "dv") (by walk_at "dt") rfl))
  · rintro ds r ⟨s, ns, at', rfl, hf, hn, rfl⟩
    rfl
end
end DL

set_option maxRecDepth 100000
set_option maxHeartbeats 400000
/-! k60, the plain law: what the program's changes make of a sky that stands is what the law's own model makes. -/
namespace DL
open PySem L2
/-- a sky that stands: good, sorted -/
structure Sk.solid (s : Sk) : Prop where
  fine : s.fine
  ok : s.ok = true
  so : srt s.kss = s.kss
theorem Sk.ok_iff (s : Sk) : s.ok = true ↔ (4 ≤ s.side ∧ s.side ≤ 9) ∧ s.cam.ok s.side = true ∧ s.kss.length ≤ 20 ∧ (∀ k ∈ s.kss, starK s.side k = true) ∧ s.kss.Nodup := by
  unfold Sk.ok
  simp only [Bool.and_eq_true, Bool.not_eq_true', Bool.or_eq_false_iff, Bool.not_eq_false', decide_eq_true_eq, List.all_eq_true, decide_eq_false_iff_not]
  constructor
  · rintro ⟨⟨h1, h2⟩, ⟨h3, h4⟩, h5⟩
    exact ⟨h1, h2, by omega, h4, nodup_of_once (by omega)⟩
  · rintro ⟨h1, h2, h3, h4, h5⟩
    exact ⟨⟨h1, h2⟩, ⟨by omega, h4⟩, by rw [once_of_nodup h5]⟩
theorem Sk.solid.good {s : Sk} (h : s.solid) : s.good := ⟨fun k hk => (h.fine.k3 k hk).1, h.fine.cs, by have := h.fine.len; omega, by have := h.fine.s0; omega⟩
/-- the sky made of it stands -/
theorem Sk.solid_mk {s : Sk} (h3 : Len3 s.kss) (hc : s.cam.sm) (e : s.ok = true) : s.mk'.solid := by
  have hk := Sk.kss3 e h3
  obtain ⟨h1, h2, h4, h5, h6⟩ := (Sk.ok_iff s).mp e
  have hp := srt_perm s.kss
  have hl : (srt s.kss).length = s.kss.length := hp.length_eq
  refine ⟨⟨kss_srt hk, hc, h1.1, h1.2, by show (srt s.kss).length ≤ 20; omega⟩, ?_, srt_of (kss_srt hk) (List.Pairwise.imp (fun h => of_decide_eq_true h) (srt_pw s.kss))⟩
  exact (Sk.ok_iff _).mpr ⟨h1, h2, by show (srt s.kss).length ≤ 20; omega, fun k hk => h5 k (hp.mem_iff.mp hk), hp.nodup_iff.mpr h6⟩
theorem Sk.mk_id {s : Sk} (h : srt s.kss = s.kss) : s.mk' = s := by
  unfold Sk.mk'
  rw [h]
theorem withS_ok {s : Sk} (h : s.solid) {x y b : Int} (hn : ¬ [x, y, b] ∈ s.kss) : (withS s [x, y, b]).ok = goodB s.side x y b s.kss.length := by
  obtain ⟨h1, h2, h3, h4, h5⟩ := (Sk.ok_iff s).mp h.ok
  rw [Bool.eq_iff_iff, Sk.ok_iff]
  unfold goodB withS
  simp only [Bool.and_eq_true, decide_eq_true_eq]
  constructor
  · rintro ⟨_, _, k3, k4, _⟩
    have := k4 [x, y, b] (List.mem_append_right _ List.mem_cons_self)
    have h' : starB s.side x y b = true := this
    unfold starB at h'
    simp only [Bool.and_eq_true, decide_eq_true_eq] at h'
    rw [List.length_append] at k3
    simp only [List.length_cons, List.length_nil] at k3
    exact ⟨h'.1, h'.2.1, h'.2.2, by omega⟩
  · rintro ⟨a1, a2, a3, a4⟩
    refine ⟨h1, h2, ?_, fun k hk => ?_, ?_⟩
    · rw [List.length_append]
      simp only [List.length_cons, List.length_nil]
      omega
    · rcases List.mem_append.mp hk with hk | hk
      · exact h4 k hk
      · rw [List.mem_singleton.mp hk]
        show starB s.side x y b = true
        unfold starB
        simp only [Bool.and_eq_true, decide_eq_true_eq]
        exact ⟨a1, a2, a3⟩
    · refine List.nodup_append.mpr ⟨h5, by simp, fun a ha c hc e => ?_⟩
      rw [List.mem_singleton.mp hc] at e
      rw [e] at ha
      exact hn ha
theorem dropS_ok {s : Sk} (h : s.solid) (n : Nat) : (dropS s n).ok = true ∧ (dropS s n).mk' = dropS s n := by
  obtain ⟨h1, h2, h3, h4, h5⟩ := (Sk.ok_iff s).mp h.ok
  have sub : (s.kss.take n ++ s.kss.drop (n + 1)).Sublist s.kss := by
    have := List.Sublist.append (List.Sublist.refl (s.kss.take n)) (List.drop_sublist 1 (s.kss.drop n))
    rw [List.drop_drop, List.take_append_drop] at this
    exact this
  have hm : ∀ k ∈ s.kss.take n ++ s.kss.drop (n + 1), k ∈ s.kss := fun k hk => sub.subset hk
  refine ⟨(Sk.ok_iff _).mpr ⟨h1, h2, Nat.le_trans sub.length_le h3, fun k hk => h4 k (hm k hk), h5.sublist sub⟩, Sk.mk_id ?_⟩
  have hk : Kss 3 (dropS s n).kss := fun k hk => h.fine.k3 k (hm k hk)
  refine srt_of hk ?_
  have hw : s.kss.Pairwise (fun a b => TS.code 64 a ≤ TS.code 64 b) := by
    rw [← h.so]
    exact List.Pairwise.imp (fun h => of_decide_eq_true h) (srt_pw s.kss)
  exact hw.sublist sub
theorem withC_ok {s : Sk} (h : s.solid) (c : Cam) : (withC s c).ok = camB s.side c.r c.b c.g c.l ∧ (withC s c).mk' = withC s c := by
  obtain ⟨h1, h2, h3, h4, h5⟩ := (Sk.ok_iff s).mp h.ok
  refine ⟨?_, Sk.mk_id h.so⟩
  rw [Bool.eq_iff_iff, Sk.ok_iff]
  exact ⟨fun z => z.2.1, fun z => ⟨h1, z, h3, h4, h5⟩⟩
/-- residues apart -/
theorem res_eq {s a x y : Int} (h : (x + a) % s = (y + a) % s) (hd : -s < x - y ∧ x - y < s) (hs : 0 < s) : x = y := by
  have e : (x - y) % s = 0 := by
    have h2 : ((x + a) - (y + a)) % s = 0 := Int.emod_eq_emod_iff_emod_sub_eq_zero.mp h
    have h3 : (x + a) - (y + a) = x - y := by omega
    rw [h3] at h2
    exact h2
  obtain ⟨c, hc⟩ := Int.dvd_of_emod_eq_zero e
  have hc0 : c = 0 := by
    have b1 : s * c < s * 1 := by omega
    have b2 : s * (-1) < s * c := by omega
    have c1 := Int.lt_of_mul_lt_mul_left b1 (Int.le_of_lt hs)
    have c2 := Int.lt_of_mul_lt_mul_left b2 (Int.le_of_lt hs)
    omega
  rw [hc0] at hc
  omega
theorem movK_inj {s : Int} (hs : 0 < s) {a b q : Int} (h0 : 0 ≤ q) (h3 : q ≤ 3) {x y c x' y' c' : Int} (hx : 0 ≤ x ∧ x < s) (hy : 0 ≤ y ∧ y < s) (hx' : 0 ≤ x' ∧ x' < s) (hy' : 0 ≤ y' ∧ y' < s)
    (h : movK s a b q [x, y, c] = movK s a b q [x', y', c']) : ([x, y, c] : List Int) = [x', y', c'] := by
  have e : [((rotN q.toNat x y).1 + a) % s, ((rotN q.toNat x y).2 + b) % s, c] = [((rotN q.toNat x' y').1 + a) % s, ((rotN q.toNat x' y').2 + b) % s, c'] := h
  injection e with e1 e
  injection e with e2 e
  injection e with e3 e
  have : q = 0 ∨ q = 1 ∨ q = 2 ∨ q = 3 := by omega
  rcases this with rfl | rfl | rfl | rfl
  · have a1 : x = x' := res_eq (a := a) e1 (by omega) hs
    have a2 : y = y' := res_eq (a := b) e2 (by omega) hs
    rw [a1, a2, e3]
  · have a1 : -y = -y' := res_eq (a := a) e1 (by omega) hs
    have a2 : x = x' := res_eq (a := b) e2 (by omega) hs
    rw [show y = y' by omega, a2, e3]
  · have a1 : -x = -x' := res_eq (a := a) e1 (by omega) hs
    have a2 : -y = -y' := res_eq (a := b) e2 (by omega) hs
    rw [show x = x' by omega, show y = y' by omega, e3]
  · have a1 : -(-y) = -(-y') := res_eq (a := a) e1 (by omega) hs
    have a2 : -x = -x' := res_eq (a := b) e2 (by omega) hs
    rw [show x = x' by omega, show y = y' by omega, e3]
theorem starK_of {side : Int} {k : List Int} (h : starK side k = true) : ∃ x y c, k = [x, y, c] ∧ (0 ≤ x ∧ x < side) ∧ (0 ≤ y ∧ y < side) ∧ 1 ≤ c ∧ c ≤ 9 := by
  match k, h with
  | [x, y, c], h =>
    have h' : starB side x y c = true := h
    unfold starB at h'
    simp only [Bool.and_eq_true, decide_eq_true_eq] at h'
    exact ⟨x, y, c, rfl, h'.1, h'.2.1, h'.2.2⟩
theorem movS_ok {s : Sk} (h : s.solid) {a b q : Int} (h0 : 0 ≤ q) (hq : q ≤ 3) : (movS s a b q).ok = true := by
  obtain ⟨h1, h2, h3, h4, h5⟩ := (Sk.ok_iff s).mp h.ok
  have hs : 0 < s.side := by omega
  refine (Sk.ok_iff _).mpr ⟨h1, h2, by show (s.kss.map _).length ≤ 20; rw [List.length_map]; exact h3, fun k hk => ?_, ?_⟩
  · obtain ⟨k0, hk0, rfl⟩ := List.mem_map.mp hk
    obtain ⟨x, y, c, rfl, _, _, hc⟩ := starK_of (h4 k0 hk0)
    show starB s.side _ _ _ = true
    unfold starB
    simp only [Bool.and_eq_true, decide_eq_true_eq]
    exact ⟨⟨Int.emod_nonneg _ (by omega), Int.emod_lt_of_pos _ hs⟩, ⟨Int.emod_nonneg _ (by omega), Int.emod_lt_of_pos _ hs⟩, hc⟩
  · show (s.kss.map (movK s.side a b q)).Nodup
    refine List.pairwise_map.mpr (List.Pairwise.imp_of_mem (fun {k k'} hk hk' hne e => hne ?_) h5)
    obtain ⟨x, y, c, rfl, hx, hy, _⟩ := starK_of (h4 k hk)
    obtain ⟨x', y', c', rfl, hx', hy', _⟩ := starK_of (h4 k' hk')
    exact movK_inj hs h0 hq hx hy hx' hy' e
end DL

set_option maxRecDepth 100000
set_option maxHeartbeats 400000
namespace DL
open PySem L2
local macro_rules | `(tactic| walk_at "ds") => `(tactic| first | with_reducible assumption | exact eqok_tupD _ | exact eqok_kss _ | exact eqok3 | with_unfolding_all exact Eq.refl _ | exact Nat.le_of_ble_eq_true (Eq.refl true) | omega | decide | exact cdivW (by omega))
local macro_rules | `(tactic| walk_at "dv") => `(tactic| first
  | ((with_reducible show EV _ (tVar _) _ _); first | exact ev_var (by with_unfolding_all exact Eq.refl _) | exact ev_own (by with_unfolding_all exact Eq.refl _) | exact ev_ownI (by with_unfolding_all exact Eq.refl _))
  | ((with_reducible show EV _ (tC _) _ _); with_reducible first | exact ev_int | exact ev_str | exact ev_bl | exact ev_non)
  | ((with_reducible show EV _ (tOp _ _ _) _ _); exact ev_op (by walk_at "dv") (by walk_at "dv") (by walk_at "do"))
  | ((with_reducible show EV _ (tUn _ _) _ _); exact ev_un (by walk_at "dv") (by with_reducible exact neg_int))
  | ((with_reducible show EV _ (tChain _ _ _ _ _) _ _); exact ev_chain (by walk_at "dv") (by walk_at "dv") (by walk_at "do") (fun _ => by walk_at "dv") (fun _ => by walk_at "do"))
  | ((with_reducible show EV _ (tCB _ _) _ _); exact ev_cb (by walk_at "dv") (by walk_at "dc"))
  | ((with_reducible show EV _ (tAndV _ _) _ _); exact ev_andV (by walk_at "dv") (fun _ => by walk_at "dv"))
  | ((with_reducible show EV _ (tOrV _ _) _ _); exact ev_orV (by walk_at "dv") (fun _ => by walk_at "dv"))
  | ((with_reducible show EV _ (tNotV _) _ _); exact ev_notV (by walk_at "dv"))
  | ((with_reducible show EV _ (tIf _ _ _) _ _); exact ev_if (by walk_at "dv") (fun _ => by walk_at "dv") (fun _ => by walk_at "dv"))
  | ((with_reducible show EV _ (tSl _ _ _ _) _ _); exact ev_sl (by walk_at "dv") (by walk_at "dv") (by walk_at "dv") (by walk_at "dl"))
  | ((with_reducible show EV _ (tTup _) _ _); exact ev_tup (by walk_at "dv") (by walk_at "dt") (by walk_at "ds"))
  | ((with_reducible show EV _ (tLst _) _ _); exact ev_lst (by walk_at "dv") (by walk_at "dt") (by walk_at "ds"))
  | ((with_reducible show AV _ tNil _ _); exact av_nil)
  | ((with_reducible show AV _ (tCons _ _) _ _); exact av_cons (by walk_at "dv") (by walk_at "dv"))
  | ((with_reducible show OV _ tNoPart _ _); exact ov_none)
  | ((with_reducible show OV _ (tPart _) _ _); exact ov_some (by walk_at "dv"))
  | ((with_reducible show TV _ (tTest _) _ _); exact tv_test (by walk_at "dv"))
  | ((with_reducible show TV _ (tB _) _ _); exact tv_B (by walk_at "dv"))
  | ((with_reducible show TV _ (tNot _) _ _); exact tv_not (by walk_at "dv"))
  | ((with_reducible show TV _ (tAnd _ _) _ _); exact tv_and (by walk_at "dv") (fun _ => by walk_at "dv"))
  | ((with_reducible show TV _ (tOr _ _) _ _); exact tv_or (by walk_at "dv") (fun _ => by walk_at "dv"))
  | ((fail_if_success (with_reducible first | show TV _ (tTest _) _ _ | show TV _ (tB _) _ _ | show TV _ (tNot _) _ _ | show TV _ (tAnd _ _) _ _ | show TV _ (tOr _ _) _ _)); (with_reducible show TV _ _ _ _); exact tv_truB (by walk_at "dv"))
  | ((with_reducible show EV _ (tCallS _ _ _) _ _); exact ev_call (by walk_at "dv") (by walk_at "dt") (by walk_at "dr"))
  | ((with_reducible show EV _ (tFld _ _ _) _ _); exact ev_fld (by walk_at "dv") (by first | exact .st | exact .li | exact .fi) (by with_reducible assumption) (by with_reducible assumption) (by with_unfolding_all exact Eq.refl _))
  | ((with_reducible show EV _ (tProp _ _ _ _ _) _ _); exact ev_prop (by walk_at "dv") (by walk_at "dt") (by walk_at "dr"))
  | ((with_reducible show EV _ (tMethW _ _ _ _ _ _) _ _); exact ev_meth (by walk_at "dv") (by with_unfolding_all exact Eq.refl _) (by walk_at "dv") (by walk_at "dt") (by walk_at "dr")))
local macro_rules | `(tactic| walk_at "do") => `(tactic| with_reducible first
  | exact add_int | exact sub_int | exact lt_int | exact le_int | exact gt_int | exact ge_int
  | exact ix_lst .st (by assumption) | exact ix_lst .fr (by assumption) | exact ix_lst .ls (by assumption) | exact ix_tup (by assumption)
  | exact ix_tup (by with_unfolding_all exact Eq.refl _) | exact ix_lst .st (by with_unfolding_all exact Eq.refl _) | exact ix_lst .ls (by with_unfolding_all exact Eq.refl _) | exact ix_lst .fr (by with_unfolding_all exact Eq.refl _)
  | exact eq_int | exact ne_int | exact eq_strV | exact eq_str (by walk_at "ds") (by walk_at "ds") | exact ne_str (by walk_at "ds") (by walk_at "ds")
  | exact eq_dat .st .st (by walk_at "ds") (by walk_at "ds") | exact ne_dat .st .st (by walk_at "ds") (by walk_at "ds")
  | exact notin_lst .st .ls (by walk_at "ds") (by walk_at "ds") | exact in_lst .st .st (by walk_at "ds") (by walk_at "ds") | exact in_lst .st .ls (by walk_at "ds") (by walk_at "ds")
  | exact in_tup .st (by walk_at "ds") (by walk_at "ds")
  | exact mul_int (by walk_at "ds") | exact mod_int (by walk_at "ds") | exact fdiv_int (by walk_at "ds"))
local macro_rules | `(tactic| walk_at "dc") => `(tactic| with_reducible first
  | exact len_tup | exact len_lst .st | exact len_lst .ls | exact len_lst .fr
  | exact abs_int | exact max2_int | exact min2_int | exact min3_int | exact int_int | exact int_bl
  | exact list_tup | exact list_lst .st | exact list_lst .ls | exact list_lst .fr
  | exact all_bls .st | exact all_bls .ls | exact all_bls .fr)
local macro_rules | `(tactic| walk_at "dt") => `(tactic| first
  | ((with_reducible show Stb (Vd.st _) _); exact Stb.st)
  | ((with_reducible show Stb (Vd.fr _) _); exact Stb.fr)
  | ((with_reducible show Stb (Vd.fi _ _) _); exact Stb.fi)
  | ((with_reducible show Stbs [] _); with_reducible exact Stbs.nil)
  | ((with_reducible show Stbs (_ :: _) _); exact Stbs.cons (by walk_at "dt") (by walk_at "dt")))
local macro_rules | `(tactic| walk_at "dg") => `(tactic| first
  | ((with_reducible show GV _ gNil _ _ _); with_reducible exact gv_nil)
  | ((with_reducible show GV _ (gCons (gName _) _) (_ :: _) _ _); exact gv_cons (by walk_at "dg")))
local macro_rules | `(tactic| walk_at "sv") => `(tactic| first
  | with_reducible refine sv_seq ?_
  | with_reducible refine sv_next ?_
  | ((with_reducible show SV _ _ (tIfS _ _ _) _ _); refine sv_if (by walk_at "dv") ?_ ?_)
  | ((with_reducible show SV _ _ (tRet _) _ _); refine sv_retV (by walk_at "dv") (by walk_at "dt") ?_)
  | ((with_reducible show SV _ _ (tAsg _ (gTup _ _ _)) _ _); refine sv_tup (ee_of (by walk_at "dv") (by walk_at "dt")) (by rfl) (by walk_at "dg") ?_)
  | ((with_reducible show SV _ _ (tAsg _ (gName _)) _ _); refine sv_setV (by walk_at "dv") (by walk_at "dt") ?_)
  | ((with_reducible show SV _ _ (tPar _ _ _) _ _); refine sv_par (by walk_at "dv") (by walk_at "dt") ?_)
  | ((with_reducible show SV _ _ (tRaise0 _ _) _ _); refine sv_raise0 ?_)
  | ((with_reducible show SV _ _ (tRaise1 _ _ _ _) _ _); refine sv_raise1 (by walk_at "dv") (by walk_at "dt") ?_)
  | ((with_reducible refine thn_nx ?_); try dsimp only [List.set]))
local macro_rules | `(tactic| walk_at "sx") => `(tactic| first | (intro hx; exact absurd hx (by decide)) | (intro hx; exfalso; simp at hx))
local macro_rules | `(tactic| walk_at "bo") => `(tactic| (simp only [Bool.or_eq_true, Bool.not_eq_true', Bool.and_eq_false_iff, Bool.or_eq_false_iff, Bool.not_eq_false', decide_eq_false_iff_not, decide_eq_true_eq, Bool.and_eq_true, Bool.eq_false_iff, ne_eq, Bool.true_and, Bool.and_true] at * <;> omega))
section
variable {P : Program} {w : World} {K : Frag} {mg : Str → Option Value} {base : Heap} {cS cI cU cT cM cD cNU cNR : Addr}
abbrev exm (K : Frag) (a b : Addr) : Option Bool := PySem.W.exmOne K (.ref a) (.ref b)
structure ExmD (K : Frag) (cT cU cM cI : Addr) : Prop where
  tt : exm K cT cT = some true
  ut : exm K cU cT = some false
  uu : exm K cU cU = some true
  mt : exm K cM cT = some false
  mu : exm K cM cU = some false
  mm : exm K cM cM = some true
  it : exm K cI cT = some false
  iu : exm K cI cU = some false
  im : exm K cI cM = some false
  ii : exm K cI cI = some true
structure ExmU (K : Frag) (cNU cNR : Addr) : Prop where
  uu : exm K cNU cNU = some true
  ru : exm K cNR cNU = some false
  rr : exm K cNR cNR = some true
theorem R_Sky_side_mk {s : Sk} : R_Sky_side cS [.ins cS s.fs] (.ret (.int s.side)) := ⟨s, rfl, rfl⟩
theorem R_Sky_stars_mk {s : Sk} : R_Sky_stars cS [.ins cS s.fs] (.ret (.tup (s.kss.map tupD))) := ⟨s, rfl, rfl⟩
theorem R_Sky_camera_mk {s : Sk} : R_Sky_camera cS [.ins cS s.fs] (.ret s.cam.d) := ⟨s, rfl, rfl⟩
def R_told (cS : Addr) (fs : List (Str × D)) (ds : List D) (r : Res) (fs' : List (Str × D)) : Prop := ∃ d : Dk, fs = d.fs cS ∧ ds = [] ∧ r = .ret d.st.d ∧ fs' = d.fs cS
theorem f_told {f : Addr} {fd : FuncData} (F : Fun K "_law_told" "_law_told" s__law_told f fd) (g_list : mg "list" = none) (m_Desk_sky_now : MthN P w K mg base 1 cD "sky_now" (spM K cD (R_sky_now cS))) (p_Sky_side : PrpN P w K mg base 1 cS "side" (spF K (R_Sky_side cS))) (p_Sky_stars : PrpN P w K mg base 1 cS "stars" (spF K (R_Sky_stars cS))) (p_Sky_camera : PrpN P w K mg base 1 cS "camera" (spF K (R_Sky_camera cS))) :
    FnOk P w K mg base (L2.CX P w) 3 f fd ["_law_desk"] (spM K cD (R_told cS)) := by
  refine fnM F sc__law_told ?_ fun cdv A outer s H E hr => ?_
  rotate_left
  have tk : Takes (cx P w K mg base N__law_told "_law_told" s__law_told f cdv A outer s H E) (wE E) := takes_of rfl rfl rfl rfl
  have po : PassesOwn (model (cx P w K mg base N__law_told "_law_told" s__law_told f cdv A outer s H E).prog (cx P w K mg base N__law_told "_law_told" s__law_told f cdv A outer s H E).w) (cx P w K mg base N__law_told "_law_told" s__law_told f cdv A outer s H E).A (cx P w K mg base N__law_told "_law_told" s__law_told f cdv A outer s H E).env (cx P w K mg base N__law_told "_law_told" s__law_told f cdv A outer s H E).xe := passes_of (X := cx P w K mg base N__law_told "_law_told" s__law_told f cdv A outer s H E) rfl
  have sc := sc__law_told
  refine ⟨_, (pss_cons (ps_set (i := 1) sc.nd rfl (Or.inl rfl) (u_meth0 m_Desk_sky_now tk hr (by first | decide | omega) (pv 0)))
    (pss_one (ps_ret (pe_tup (pa_cons (u_prop p_Sky_side hr (by first | decide | omega) (pv 1)) (pa_cons (pe_callTy call_list_of (by rfl) g_list (by decide +kernel) (pa_cons (u_prop p_Sky_stars hr (by first | decide | omega) (pv 1)) pa_nil)) (pa_cons (u_prop p_Sky_camera hr (by first | decide | omega) (pv 1)) pa_nil))))))), ?_⟩
  try simp only [show (cx P w K mg base N__law_told "_law_told" s__law_told f cdv A outer s H E).K = K from rfl, show (cx P w K mg base N__law_told "_law_told" s__law_told f cdv A outer s H E).prog = P from rfl, show (cx P w K mg base N__law_told "_law_told" s__law_told f cdv A outer s H E).w = w from rfl]
  clear tk po sc
  · rintro fs ds r fs' ⟨d, rfl, rfl, rfl, rfl⟩
    refine sv_seq (sv_set (ee_methO rfl rfl av_nil .nil ⟨d, rfl, rfl, rfl, rfl⟩) (thn_nx ?_))
    refine sv_retV (ev_tup (av_cons (ev_prop (fs := d.st.fs) (ev_var rfl) .st R_Sky_side_mk) (av_cons (ev_cb (av_cons (ev_prop (fs := d.st.fs) (ev_var rfl) .st R_Sky_stars_mk) av_nil) list_tup) (av_cons (ev_prop (fs := d.st.fs) (ev_var rfl) .st R_Sky_camera_mk) av_nil))) (.cons .st (.cons .fr (.cons .st .nil))) (Nat.le_of_ble_eq_true rfl)) .st ?_
    exact ⟨rfl, rfl⟩
  · rintro fs ds r fs' ⟨d, rfl, rfl, rfl, rfl⟩
    rfl
end
end DL

set_option maxRecDepth 100000
set_option maxHeartbeats 400000
namespace DL
open PySem L2
local macro_rules | `(tactic| walk_at "ds") => `(tactic| first | with_reducible assumption | exact eqok_tupD _ | exact eqok_kss _ | exact eqok3 | with_unfolding_all exact Eq.refl _ | exact Nat.le_of_ble_eq_true (Eq.refl true) | omega | decide | exact cdivW (by omega))
local macro_rules | `(tactic| walk_at "dv") => `(tactic| first
  | ((with_reducible show EV _ (tVar _) _ _); first | exact ev_var (by with_unfolding_all exact Eq.refl _) | exact ev_own (by with_unfolding_all exact Eq.refl _) | exact ev_ownI (by with_unfolding_all exact Eq.refl _))
  | ((with_reducible show EV _ (tC _) _ _); with_reducible first | exact ev_int | exact ev_str | exact ev_bl | exact ev_non)
  | ((with_reducible show EV _ (tOp _ _ _) _ _); exact ev_op (by walk_at "dv") (by walk_at "dv") (by walk_at "do"))
  | ((with_reducible show EV _ (tUn _ _) _ _); exact ev_un (by walk_at "dv") (by with_reducible exact neg_int))
  | ((with_reducible show EV _ (tChain _ _ _ _ _) _ _); exact ev_chain (by walk_at "dv") (by walk_at "dv") (by walk_at "do") (fun _ => by walk_at "dv") (fun _ => by walk_at "do"))
  | ((with_reducible show EV _ (tCB _ _) _ _); exact ev_cb (by walk_at "dv") (by walk_at "dc"))
  | ((with_reducible show EV _ (tAndV _ _) _ _); exact ev_andV (by walk_at "dv") (fun _ => by walk_at "dv"))
  | ((with_reducible show EV _ (tOrV _ _) _ _); exact ev_orV (by walk_at "dv") (fun _ => by walk_at "dv"))
  | ((with_reducible show EV _ (tNotV _) _ _); exact ev_notV (by walk_at "dv"))
  | ((with_reducible show EV _ (tIf _ _ _) _ _); exact ev_if (by walk_at "dv") (fun _ => by walk_at "dv") (fun _ => by walk_at "dv"))
  | ((with_reducible show EV _ (tSl _ _ _ _) _ _); exact ev_sl (by walk_at "dv") (by walk_at "dv") (by walk_at "dv") (by walk_at "dl"))
  | ((with_reducible show EV _ (tTup _) _ _); exact ev_tup (by walk_at "dv") (by walk_at "dt") (by walk_at "ds"))
  | ((with_reducible show EV _ (tLst _) _ _); exact ev_lst (by walk_at "dv") (by walk_at "dt") (by walk_at "ds"))
  | ((with_reducible show AV _ tNil _ _); exact av_nil)
  | ((with_reducible show AV _ (tCons _ _) _ _); exact av_cons (by walk_at "dv") (by walk_at "dv"))
  | ((with_reducible show OV _ tNoPart _ _); exact ov_none)
  | ((with_reducible show OV _ (tPart _) _ _); exact ov_some (by walk_at "dv"))
  | ((with_reducible show TV _ (tTest _) _ _); exact tv_test (by walk_at "dv"))
  | ((with_reducible show TV _ (tB _) _ _); exact tv_B (by walk_at "dv"))
  | ((with_reducible show TV _ (tNot _) _ _); exact tv_not (by walk_at "dv"))
  | ((with_reducible show TV _ (tAnd _ _) _ _); exact tv_and (by walk_at "dv") (fun _ => by walk_at "dv"))
  | ((with_reducible show TV _ (tOr _ _) _ _); exact tv_or (by walk_at "dv") (fun _ => by walk_at "dv"))
  | ((fail_if_success (with_reducible first | show TV _ (tTest _) _ _ | show TV _ (tB _) _ _ | show TV _ (tNot _) _ _ | show TV _ (tAnd _ _) _ _ | show TV _ (tOr _ _) _ _)); (with_reducible show TV _ _ _ _); exact tv_truB (by walk_at "dv"))
  | ((with_reducible show EV _ (tCallS _ _ _) _ _); exact ev_call (by walk_at "dv") (by walk_at "dt") (by walk_at "dr"))
  | ((with_reducible show EV _ (tFld _ _ _) _ _); exact ev_fld (by walk_at "dv") (by first | exact .st | exact .li | exact .fi) (by with_reducible assumption) (by with_reducible assumption) (by with_unfolding_all exact Eq.refl _))
  | ((with_reducible show EV _ (tProp _ _ _ _ _) _ _); exact ev_prop (by walk_at "dv") (by walk_at "dt") (by walk_at "dr"))
  | ((with_reducible show EV _ (tMethW _ _ _ _ _ _) _ _); exact ev_meth (by walk_at "dv") (by with_unfolding_all exact Eq.refl _) (by walk_at "dv") (by walk_at "dt") (by walk_at "dr")))
local macro_rules | `(tactic| walk_at "do") => `(tactic| with_reducible first
  | exact add_int | exact sub_int | exact lt_int | exact le_int | exact gt_int | exact ge_int
  | exact ix_lst .st (by assumption) | exact ix_lst .fr (by assumption) | exact ix_lst .ls (by assumption) | exact ix_tup (by assumption)
  | exact ix_tup (by with_unfolding_all exact Eq.refl _) | exact ix_lst .st (by with_unfolding_all exact Eq.refl _) | exact ix_lst .ls (by with_unfolding_all exact Eq.refl _) | exact ix_lst .fr (by with_unfolding_all exact Eq.refl _)
  | exact eq_int | exact ne_int | exact eq_strV | exact eq_str (by walk_at "ds") (by walk_at "ds") | exact ne_str (by walk_at "ds") (by walk_at "ds")
  | exact eq_dat .st .st (by walk_at "ds") (by walk_at "ds") | exact ne_dat .st .st (by walk_at "ds") (by walk_at "ds")
  | exact notin_lst .st .ls (by walk_at "ds") (by walk_at "ds") | exact in_lst .st .st (by walk_at "ds") (by walk_at "ds") | exact in_lst .st .ls (by walk_at "ds") (by walk_at "ds")
  | exact in_tup .st (by walk_at "ds") (by walk_at "ds")
  | exact mul_int (by walk_at "ds") | exact mod_int (by walk_at "ds") | exact fdiv_int (by walk_at "ds"))
local macro_rules | `(tactic| walk_at "dc") => `(tactic| with_reducible first
  | exact len_tup | exact len_lst .st | exact len_lst .ls | exact len_lst .fr
  | exact abs_int | exact max2_int | exact min2_int | exact min3_int | exact int_int | exact int_bl
  | exact list_tup | exact list_lst .st | exact list_lst .ls | exact list_lst .fr
  | exact all_bls .st | exact all_bls .ls | exact all_bls .fr)
local macro_rules | `(tactic| walk_at "dt") => `(tactic| first
  | ((with_reducible show Stb (Vd.st _) _); exact Stb.st)
  | ((with_reducible show Stb (Vd.fr _) _); exact Stb.fr)
  | ((with_reducible show Stb (Vd.fi _ _) _); exact Stb.fi)
  | ((with_reducible show Stbs [] _); with_reducible exact Stbs.nil)
  | ((with_reducible show Stbs (_ :: _) _); exact Stbs.cons (by walk_at "dt") (by walk_at "dt")))
local macro_rules | `(tactic| walk_at "dg") => `(tactic| first
  | ((with_reducible show GV _ gNil _ _ _); with_reducible exact gv_nil)
  | ((with_reducible show GV _ (gCons (gName _) _) (_ :: _) _ _); exact gv_cons (by walk_at "dg")))
local macro_rules | `(tactic| walk_at "sv") => `(tactic| first
  | with_reducible refine sv_seq ?_
  | with_reducible refine sv_next ?_
  | ((with_reducible show SV _ _ (tIfS _ _ _) _ _); refine sv_if (by walk_at "dv") ?_ ?_)
  | ((with_reducible show SV _ _ (tRet _) _ _); refine sv_retV (by walk_at "dv") (by walk_at "dt") ?_)
  | ((with_reducible show SV _ _ (tAsg _ (gTup _ _ _)) _ _); refine sv_tup (ee_of (by walk_at "dv") (by walk_at "dt")) (by rfl) (by walk_at "dg") ?_)
  | ((with_reducible show SV _ _ (tAsg _ (gName _)) _ _); refine sv_setV (by walk_at "dv") (by walk_at "dt") ?_)
  | ((with_reducible show SV _ _ (tPar _ _ _) _ _); refine sv_par (by walk_at "dv") (by walk_at "dt") ?_)
  | ((with_reducible show SV _ _ (tRaise0 _ _) _ _); refine sv_raise0 ?_)
  | ((with_reducible show SV _ _ (tRaise1 _ _ _ _) _ _); refine sv_raise1 (by walk_at "dv") (by walk_at "dt") ?_)
  | ((with_reducible refine thn_nx ?_); try dsimp only [List.set]))
local macro_rules | `(tactic| walk_at "sx") => `(tactic| first | (intro hx; exact absurd hx (by decide)) | (intro hx; exfalso; simp at hx))
local macro_rules | `(tactic| walk_at "bo") => `(tactic| (simp only [Bool.or_eq_true, Bool.not_eq_true', Bool.and_eq_false_iff, Bool.or_eq_false_iff, Bool.not_eq_false', decide_eq_false_iff_not, decide_eq_true_eq, Bool.and_eq_true, Bool.eq_false_iff, ne_eq, Bool.true_and, Bool.and_true] at * <;> omega))
section
variable {P : Program} {w : World} {K : Frag} {mg : Str → Option Value} {base : Heap} {cS cI cU cT cM cD cNU cNR : Addr}
def R_do (cS : Addr) (fs : List (Str × D)) (ds : List D) (r : Res) (fs' : List (Str × D)) : Prop := ∃ (d : Dk) (dd : Dd), fs = d.fs cS ∧ ds = [dd.d] ∧ d.st.solid ∧ dd.sm ∧ d.past.length ≤ 1000 ∧
  ((∃ s', behM d.st dd = .ok s' ∧ r = .ret .non ∧ fs' = (d.push s').fs cS) ∨ ∃ wd v, behM d.st dd = .no wd v ∧ r = .ret (.tup [.str wd, v]) ∧ fs' = d.fs cS)
theorem f_do {f : Addr} {fd : FuncData} (F : Fun K "_law_do" "_law_do" s__law_do f fd) (m_Desk_put_star : MthN P w K mg base 5 cD "put_star" (spM K cD (R_chg cS (R_with_star cS cI cT)))) (m_Desk_drop_star : MthN P w K mg base 6 cD "drop_star" (spM K cD (R_chg cS (R_without_star cS cI cU))))
    (m_Desk_set_camera : MthN P w K mg base 5 cD "set_camera" (spM K cD (R_chg cS (R_with_camera cS cI)))) (m_Desk_move_sky : MthN P w K mg base 5 cD "move_sky" (spM K cD (R_chg cS (R_moved cS cI cM))))
    (e_StarTaken : Ex1 P w K mg base 1 "StarTaken" cT "star") (e_UnknownStar : Ex1 P w K mg base 1 "UnknownStar" cU "number") (e_InvalidMotion : Ex1 P w K mg base 1 "InvalidMotion" cM "motion") (e_InvalidSky : Ex0 K mg "InvalidSky" cI) (xd : ExmD K cT cU cM cI) :
    FnOk P w K mg base (L2.CX P w) 7 f fd ["_law_desk", "_law_deed_here"] (spM K cD (R_do cS)) := by
  refine fnM F sc__law_do ?_ fun cdv A outer s H E hr => ?_
  rotate_left
  have tk : Takes (cx P w K mg base N__law_do "_law_do" s__law_do f cdv A outer s H E) (wE E) := takes_of rfl rfl rfl rfl
  have po : PassesOwn (model (cx P w K mg base N__law_do "_law_do" s__law_do f cdv A outer s H E).prog (cx P w K mg base N__law_do "_law_do" s__law_do f cdv A outer s H E).w) (cx P w K mg base N__law_do "_law_do" s__law_do f cdv A outer s H E).A (cx P w K mg base N__law_do "_law_do" s__law_do f cdv A outer s H E).env (cx P w K mg base N__law_do "_law_do" s__law_do f cdv A outer s H E).xe := passes_of (X := cx P w K mg base N__law_do "_law_do" s__law_do f cdv A outer s H E) rfl
  have sc := sc__law_do
  refine ⟨_, (pss_one (u_try rfl rfl tk (fun W2 pn xe tk2 po2 => (pss_cons (ps_if (pt_cmpR (op_eqDK K hr.units) (pe_ix (ix_seqK K) (pv 1) pe_int (fun _ _ => rfl)) pe_str (nomark _)) (pss_one (ps_ret (u_meth m_Desk_put_star tk2 hr (by first | decide | omega) (pv 0) (pa_cons (pe_ix (ix_seqK K) (pv 1) pe_int (fun _ _ => rfl)) pa_nil)))) pss_nil)
    (pss_cons (ps_if (pt_cmpR (op_eqDK K hr.units) (pe_ix (ix_seqK K) (pv 1) pe_int (fun _ _ => rfl)) pe_str (nomark _)) (pss_one (ps_ret (u_meth m_Desk_drop_star tk2 hr (by first | decide | omega) (pv 0) (pa_cons (pe_ix (ix_seqK K) (pv 1) pe_int (fun _ _ => rfl)) pa_nil)))) pss_nil)
    (pss_cons (ps_if (pt_cmpR (op_eqDK K hr.units) (pe_ix (ix_seqK K) (pv 1) pe_int (fun _ _ => rfl)) pe_str (nomark _)) (pss_one (ps_ret (u_meth m_Desk_set_camera tk2 hr (by first | decide | omega) (pv 0) (pa_cons (pe_ix (ix_seqK K) (pv 1) pe_int (fun _ _ => rfl)) pa_nil)))) pss_nil)
    (pss_one (ps_ret (u_meth m_Desk_move_sky tk2 hr (by first | decide | omega) (pv 0) (pa_cons (pe_ix (ix_seqK K) (pv 1) pe_int (fun _ _ => rfl)) pa_nil)))))))) (HdN.as (i := 2) sc.nd rfl rfl e_StarTaken.names (fun a oe cls d pn hz hf => (pss_one (ps_ret (pe_tup (pa_cons pe_str (pa_cons (u_efld e_StarTaken hz hf (pv 2)) pa_nil)))))) (HdN.as (i := 2) sc.nd rfl rfl e_UnknownStar.names (fun a oe cls d pn hz hf => (pss_one (ps_ret (pe_tup (pa_cons pe_str (pa_cons (u_efld e_UnknownStar hz hf (pv 2)) pa_nil)))))) (HdN.as (i := 2) sc.nd rfl rfl e_InvalidMotion.names (fun a oe cls d pn hz hf => (pss_one (ps_ret (pe_tup (pa_cons pe_str (pa_cons (u_efld e_InvalidMotion hz hf (pv 2)) pa_nil)))))) (HdN.only e_InvalidSky.names (fun a oe cls d pn hz hf => (pss_one (ps_ret (pe_tup (pa_cons pe_str (pa_cons pe_non pa_nil)))))) HdN.nil)))))), ?_⟩
  try simp only [show (cx P w K mg base N__law_do "_law_do" s__law_do f cdv A outer s H E).K = K from rfl, show (cx P w K mg base N__law_do "_law_do" s__law_do f cdv A outer s H E).prog = P from rfl, show (cx P w K mg base N__law_do "_law_do" s__law_do f cdv A outer s H E).w = w from rfl]
  clear tk po sc
  · rintro fs ds r fs' ⟨d, dd, rfl, rfl, hs, hsm, hl, h1⟩
    have hg := hs.good
    refine sv_try fun W => ?_
    cases dd with
    | star x y b =>
      simp only [startM, Dd.d, List.map_cons, List.map_nil, List.length_cons, List.length_nil, Nat.reduceAdd, Nat.reduceSub, List.reduceReplicate, List.cons_append, List.nil_append]
      refine sv_seq (sv_if (by walk_at "dv") ?_ ?_)
      rotate_left
      · walk_at "sx"
      intro _
      by_cases hin : decide ([x, y, b] ∈ d.st.kss) = true
      · have e : behM d.st (.star x y b) = .no "taken" (tupD [x, y, b]) := if_pos hin
        rw [e] at h1
        rcases h1 with ⟨s', h1, _⟩ | ⟨wd, v, h1, rfl, rfl⟩
        · cases h1
        cases h1
        refine sv_retX (xx_methO rfl rfl (av_cons (by walk_at "dv") av_nil) (.cons .st .nil) ⟨d, tupD [x, y, b], .exc cT (some [("star", tupD [x, y, b])]), rfl, rfl, hl, ⟨d.st, [x, y, b], rfl, rfl, hg, (if_pos hin).symm⟩, .inr ⟨cT, _, rfl, rfl, rfl⟩⟩) ?_
        refine ⟨true, xd.tt, fun _ => ⟨_, rfl, fun a dd => ?_⟩, (fun z => nomatch z)⟩
        exact sv_retV (ev_tup (av_cons ev_str (av_cons (ev_xf (ev_var rfl) rfl) av_nil)) (.cons .st (.cons .st .nil)) (Nat.le_of_ble_eq_true rfl)) .st ⟨rfl, rfl⟩
      · have hin' : ¬ [x, y, b] ∈ d.st.kss := fun z => hin (decide_eq_true z)
        have hok := withS_ok hs hin'
        have e : behM d.st (.star x y b) = if goodB d.st.side x y b d.st.kss.length = true then .ok (withS d.st [x, y, b]).mk' else .no "sky" .non := if_neg hin
        by_cases hgd : goodB d.st.side x y b d.st.kss.length = true
        · rw [e, if_pos hgd] at h1
          rw [hgd] at hok
          rcases h1 with ⟨s', h1, rfl, rfl⟩ | ⟨wd, v, h1, _⟩
          rotate_left
          · cases h1
          cases h1
          refine sv_ret (ee_methO rfl rfl (av_cons (by walk_at "dv") av_nil) (.cons .st .nil) ⟨d, tupD [x, y, b], .ret (skD cS (withS d.st [x, y, b]).mk'), rfl, rfl, hl, ⟨d.st, [x, y, b], rfl, rfl, hg, ?_⟩, .inl ⟨_, rfl, rfl, rfl⟩⟩) ⟨rfl, rfl⟩
          rw [if_neg hin]
          unfold skyR
          rw [if_pos hok]
          rfl
        · rw [e, if_neg hgd] at h1
          rcases h1 with ⟨s', h1, _⟩ | ⟨wd, v, h1, rfl, rfl⟩
          · cases h1
          cases h1
          refine sv_retX (xx_methO rfl rfl (av_cons (by walk_at "dv") av_nil) (.cons .st .nil) ⟨d, tupD [x, y, b], .exc cI none, rfl, rfl, hl, ⟨d.st, [x, y, b], rfl, rfl, hg, ?_⟩, .inr ⟨cI, _, rfl, rfl, rfl⟩⟩) ?_
          · rw [if_neg hin]
            unfold skyR
            rw [if_neg (by rw [hok]; exact hgd)]
          · refine ⟨false, xd.it, (fun z => nomatch z), fun _ => ⟨false, xd.iu, (fun z => nomatch z), fun _ => ⟨false, xd.im, (fun z => nomatch z), fun _ => ⟨true, xd.ii, fun _ a od => ?_, (fun z => nomatch z)⟩⟩⟩⟩
            exact sv_retV (ev_tup (av_cons ev_str (av_cons ev_non av_nil)) (.cons .st (.cons .st .nil)) (Nat.le_of_ble_eq_true rfl)) .st ⟨rfl, rfl⟩
    | noStar n =>
      simp only [startM, Dd.d, List.map_cons, List.map_nil, List.length_cons, List.length_nil, Nat.reduceAdd, Nat.reduceSub, List.reduceReplicate, List.cons_append, List.nil_append]
      refine sv_seq (sv_if (by walk_at "dv") ?_ ?_)
      · walk_at "sx"
      intro _
      refine sv_next (thn_nx (sv_seq (sv_if (by walk_at "dv") ?_ ?_)))
      rotate_left
      · walk_at "sx"
      intro _
      by_cases hin : inB n d.st.kss.length = true
      · have e : behM d.st (.noStar n) = .ok (dropS d.st n.toNat) := if_pos hin
        obtain ⟨o1, o2⟩ := dropS_ok hs n.toNat
        rw [e] at h1
        rcases h1 with ⟨s', h1, rfl, rfl⟩ | ⟨wd, v, h1, _⟩
        rotate_left
        · cases h1
        cases h1
        refine sv_ret (ee_methO rfl rfl (av_cons (by walk_at "dv") av_nil) (.cons .st .nil) ⟨d, .int n, .ret (skD cS (dropS d.st n.toNat)), rfl, rfl, hl, ⟨d.st, n, rfl, hg, ?_⟩, .inl ⟨_, rfl, rfl, rfl⟩⟩) ⟨rfl, rfl⟩
        rw [if_pos hin]
        unfold skyR
        rw [if_pos o1, o2]
        rfl
      · have e : behM d.st (.noStar n) = .no "star" (.int n) := if_neg hin
        rw [e] at h1
        rcases h1 with ⟨s', h1, _⟩ | ⟨wd, v, h1, rfl, rfl⟩
        · cases h1
        cases h1
        refine sv_retX (xx_methO rfl rfl (av_cons (by walk_at "dv") av_nil) (.cons .st .nil) ⟨d, .int n, .exc cU (some [("number", .int n)]), rfl, rfl, hl, ⟨d.st, n, rfl, hg, (if_neg hin).symm⟩, .inr ⟨cU, _, rfl, rfl, rfl⟩⟩) ?_
        refine ⟨false, xd.ut, (fun z => nomatch z), fun _ => ⟨true, xd.uu, fun _ => ⟨_, rfl, fun a dd => ?_⟩, (fun z => nomatch z)⟩⟩
        exact sv_retV (ev_tup (av_cons ev_str (av_cons (ev_xf (ev_var rfl) rfl) av_nil)) (.cons .st (.cons .st .nil)) (Nat.le_of_ble_eq_true rfl)) .st ⟨rfl, rfl⟩
    | cam c =>
      simp only [startM, Dd.d, List.map_cons, List.map_nil, List.length_cons, List.length_nil, Nat.reduceAdd, Nat.reduceSub, List.reduceReplicate, List.cons_append, List.nil_append]
      refine sv_seq (sv_if (by walk_at "dv") ?_ ?_)
      · walk_at "sx"
      intro _
      refine sv_next (thn_nx (sv_seq (sv_if (by walk_at "dv") ?_ ?_)))
      · walk_at "sx"
      intro _
      refine sv_next (thn_nx (sv_seq (sv_if (by walk_at "dv") ?_ ?_)))
      rotate_left
      · walk_at "sx"
      intro _
      obtain ⟨o1, o2⟩ := withC_ok hs c
      by_cases hin : camB d.st.side c.r c.b c.g c.l = true
      · have e : behM d.st (.cam c) = .ok (withC d.st c) := if_pos hin
        rw [e] at h1
        rw [hin] at o1
        rcases h1 with ⟨s', h1, rfl, rfl⟩ | ⟨wd, v, h1, _⟩
        rotate_left
        · cases h1
        cases h1
        refine sv_ret (ee_methO rfl rfl (av_cons (by walk_at "dv") av_nil) (.cons .st .nil) ⟨d, c.d, .ret (skD cS (withC d.st c)), rfl, rfl, hl, ⟨d.st, c, rfl, hsm, hg, ?_⟩, .inl ⟨_, rfl, rfl, rfl⟩⟩) ⟨rfl, rfl⟩
        unfold skyR
        rw [if_pos o1, o2]
        rfl
      · have e : behM d.st (.cam c) = .no "sky" .non := if_neg hin
        rw [e] at h1
        rcases h1 with ⟨s', h1, _⟩ | ⟨wd, v, h1, rfl, rfl⟩
        · cases h1
        cases h1
        refine sv_retX (xx_methO rfl rfl (av_cons (by walk_at "dv") av_nil) (.cons .st .nil) ⟨d, c.d, .exc cI none, rfl, rfl, hl, ⟨d.st, c, rfl, hsm, hg, ?_⟩, .inr ⟨cI, _, rfl, rfl, rfl⟩⟩) ?_
        · unfold skyR
          rw [if_neg (by rw [o1]; exact hin)]
        · refine ⟨false, xd.it, (fun z => nomatch z), fun _ => ⟨false, xd.iu, (fun z => nomatch z), fun _ => ⟨false, xd.im, (fun z => nomatch z), fun _ => ⟨true, xd.ii, fun _ a od => ?_, (fun z => nomatch z)⟩⟩⟩⟩
          exact sv_retV (ev_tup (av_cons ev_str (av_cons ev_non av_nil)) (.cons .st (.cons .st .nil)) (Nat.le_of_ble_eq_true rfl)) .st ⟨rfl, rfl⟩
    | move a b q =>
      simp only [startM, Dd.d, List.map_cons, List.map_nil, List.length_cons, List.length_nil, Nat.reduceAdd, Nat.reduceSub, List.reduceReplicate, List.cons_append, List.nil_append]
      refine sv_seq (sv_if (by walk_at "dv") ?_ ?_)
      · walk_at "sx"
      intro _
      refine sv_next (thn_nx (sv_seq (sv_if (by walk_at "dv") ?_ ?_)))
      · walk_at "sx"
      intro _
      refine sv_next (thn_nx (sv_seq (sv_if (by walk_at "dv") ?_ ?_)))
      · walk_at "sx"
      intro _
      refine sv_next (thn_nx ?_)
      by_cases hin : motB d.st.side a b q = true
      · have e : behM d.st (.move a b q) = .ok (movS d.st a b q).mk' := if_pos hin
        have hq := hin
        unfold motB at hq
        simp only [Bool.and_eq_true, decide_eq_true_eq] at hq
        have o1 := movS_ok (a := a) (b := b) hs hq.2.2.1 hq.2.2.2
        rw [e] at h1
        rcases h1 with ⟨s', h1, rfl, rfl⟩ | ⟨wd, v, h1, _⟩
        rotate_left
        · cases h1
        cases h1
        refine sv_ret (ee_methO rfl rfl (av_cons (by walk_at "dv") av_nil) (.cons .st .nil) ⟨d, tupD [a, b, q], .ret (skD cS (movS d.st a b q).mk'), rfl, rfl, hl, ⟨d.st, a, b, q, rfl, hg, ?_⟩, .inl ⟨_, rfl, rfl, rfl⟩⟩) ⟨rfl, rfl⟩
        rw [if_pos hin]
        unfold skyR
        rw [if_pos o1]
        rfl
      · have e : behM d.st (.move a b q) = .no "motion" (tupD [a, b, q]) := if_neg hin
        rw [e] at h1
        rcases h1 with ⟨s', h1, _⟩ | ⟨wd, v, h1, rfl, rfl⟩
        · cases h1
        cases h1
        refine sv_retX (xx_methO rfl rfl (av_cons (by walk_at "dv") av_nil) (.cons .st .nil) ⟨d, tupD [a, b, q], .exc cM (some [("motion", tupD [a, b, q])]), rfl, rfl, hl, ⟨d.st, a, b, q, rfl, hg, (if_neg hin).symm⟩, .inr ⟨cM, _, rfl, rfl, rfl⟩⟩) ?_
        refine ⟨false, xd.mt, (fun z => nomatch z), fun _ => ⟨false, xd.mu, (fun z => nomatch z), fun _ => ⟨true, xd.mm, fun _ => ⟨_, rfl, fun a dd => ?_⟩, (fun z => nomatch z)⟩⟩⟩
        exact sv_retV (ev_tup (av_cons ev_str (av_cons (ev_xf (ev_var rfl) rfl) av_nil)) (.cons .st (.cons .st .nil)) (Nat.le_of_ble_eq_true rfl)) .st ⟨rfl, rfl⟩
  · rintro fs ds r fs' ⟨d, dd, rfl, rfl, hs, hsm, hl, h1⟩
    rfl
end
end DL

set_option maxRecDepth 100000
set_option maxHeartbeats 400000
namespace DL
open PySem L2
local macro_rules | `(tactic| walk_at "ds") => `(tactic| first | with_reducible assumption | exact eqok_tupD _ | exact eqok_kss _ | exact eqok3 | with_unfolding_all exact Eq.refl _ | exact Nat.le_of_ble_eq_true (Eq.refl true) | omega | decide | exact cdivW (by omega))
local macro_rules | `(tactic| walk_at "dv") => `(tactic| first
  | ((with_reducible show EV _ (tVar _) _ _); first | exact ev_var (by with_unfolding_all exact Eq.refl _) | exact ev_own (by with_unfolding_all exact Eq.refl _) | exact ev_ownI (by with_unfolding_all exact Eq.refl _))
  | ((with_reducible show EV _ (tC _) _ _); with_reducible first | exact ev_int | exact ev_str | exact ev_bl | exact ev_non)
  | ((with_reducible show EV _ (tOp _ _ _) _ _); exact ev_op (by walk_at "dv") (by walk_at "dv") (by walk_at "do"))
  | ((with_reducible show EV _ (tUn _ _) _ _); exact ev_un (by walk_at "dv") (by with_reducible exact neg_int))
  | ((with_reducible show EV _ (tChain _ _ _ _ _) _ _); exact ev_chain (by walk_at "dv") (by walk_at "dv") (by walk_at "do") (fun _ => by walk_at "dv") (fun _ => by walk_at "do"))
  | ((with_reducible show EV _ (tCB _ _) _ _); exact ev_cb (by walk_at "dv") (by walk_at "dc"))
  | ((with_reducible show EV _ (tAndV _ _) _ _); exact ev_andV (by walk_at "dv") (fun _ => by walk_at "dv"))
  | ((with_reducible show EV _ (tOrV _ _) _ _); exact ev_orV (by walk_at "dv") (fun _ => by walk_at "dv"))
  | ((with_reducible show EV _ (tNotV _) _ _); exact ev_notV (by walk_at "dv"))
  | ((with_reducible show EV _ (tIf _ _ _) _ _); exact ev_if (by walk_at "dv") (fun _ => by walk_at "dv") (fun _ => by walk_at "dv"))
  | ((with_reducible show EV _ (tSl _ _ _ _) _ _); exact ev_sl (by walk_at "dv") (by walk_at "dv") (by walk_at "dv") (by walk_at "dl"))
  | ((with_reducible show EV _ (tTup _) _ _); exact ev_tup (by walk_at "dv") (by walk_at "dt") (by walk_at "ds"))
  | ((with_reducible show EV _ (tLst _) _ _); exact ev_lst (by walk_at "dv") (by walk_at "dt") (by walk_at "ds"))
  | ((with_reducible show AV _ tNil _ _); exact av_nil)
  | ((with_reducible show AV _ (tCons _ _) _ _); exact av_cons (by walk_at "dv") (by walk_at "dv"))
  | ((with_reducible show OV _ tNoPart _ _); exact ov_none)
  | ((with_reducible show OV _ (tPart _) _ _); exact ov_some (by walk_at "dv"))
  | ((with_reducible show TV _ (tTest _) _ _); exact tv_test (by walk_at "dv"))
  | ((with_reducible show TV _ (tB _) _ _); exact tv_B (by walk_at "dv"))
  | ((with_reducible show TV _ (tNot _) _ _); exact tv_not (by walk_at "dv"))
  | ((with_reducible show TV _ (tAnd _ _) _ _); exact tv_and (by walk_at "dv") (fun _ => by walk_at "dv"))
  | ((with_reducible show TV _ (tOr _ _) _ _); exact tv_or (by walk_at "dv") (fun _ => by walk_at "dv"))
  | ((fail_if_success (with_reducible first | show TV _ (tTest _) _ _ | show TV _ (tB _) _ _ | show TV _ (tNot _) _ _ | show TV _ (tAnd _ _) _ _ | show TV _ (tOr _ _) _ _)); (with_reducible show TV _ _ _ _); exact tv_truB (by walk_at "dv"))
  | ((with_reducible show EV _ (tCallS _ _ _) _ _); exact ev_call (by walk_at "dv") (by walk_at "dt") (by walk_at "dr"))
  | ((with_reducible show EV _ (tFld _ _ _) _ _); exact ev_fld (by walk_at "dv") (by first | exact .st | exact .li | exact .fi) (by with_reducible assumption) (by with_reducible assumption) (by with_unfolding_all exact Eq.refl _))
  | ((with_reducible show EV _ (tProp _ _ _ _ _) _ _); exact ev_prop (by walk_at "dv") (by walk_at "dt") (by walk_at "dr"))
  | ((with_reducible show EV _ (tMethW _ _ _ _ _ _) _ _); exact ev_meth (by walk_at "dv") (by with_unfolding_all exact Eq.refl _) (by walk_at "dv") (by walk_at "dt") (by walk_at "dr")))
local macro_rules | `(tactic| walk_at "do") => `(tactic| with_reducible first
  | exact add_int | exact sub_int | exact lt_int | exact le_int | exact gt_int | exact ge_int
  | exact ix_lst .st (by assumption) | exact ix_lst .fr (by assumption) | exact ix_lst .ls (by assumption) | exact ix_tup (by assumption)
  | exact ix_tup (by with_unfolding_all exact Eq.refl _) | exact ix_lst .st (by with_unfolding_all exact Eq.refl _) | exact ix_lst .ls (by with_unfolding_all exact Eq.refl _) | exact ix_lst .fr (by with_unfolding_all exact Eq.refl _)
  | exact eq_int | exact ne_int | exact eq_strV | exact eq_str (by walk_at "ds") (by walk_at "ds") | exact ne_str (by walk_at "ds") (by walk_at "ds")
  | exact eq_dat .st .st (by walk_at "ds") (by walk_at "ds") | exact ne_dat .st .st (by walk_at "ds") (by walk_at "ds")
  | exact notin_lst .st .ls (by walk_at "ds") (by walk_at "ds") | exact in_lst .st .st (by walk_at "ds") (by walk_at "ds") | exact in_lst .st .ls (by walk_at "ds") (by walk_at "ds")
  | exact in_tup .st (by walk_at "ds") (by walk_at "ds")
  | exact mul_int (by walk_at "ds") | exact mod_int (by walk_at "ds") | exact fdiv_int (by walk_at "ds"))
local macro_rules | `(tactic| walk_at "dc") => `(tactic| with_reducible first
  | exact len_tup | exact len_lst .st | exact len_lst .ls | exact len_lst .fr
  | exact abs_int | exact max2_int | exact min2_int | exact min3_int | exact int_int | exact int_bl
  | exact list_tup | exact list_lst .st | exact list_lst .ls | exact list_lst .fr
  | exact all_bls .st | exact all_bls .ls | exact all_bls .fr)
local macro_rules | `(tactic| walk_at "dt") => `(tactic| first
  | ((with_reducible show Stb (Vd.st _) _); exact Stb.st)
  | ((with_reducible show Stb (Vd.fr _) _); exact Stb.fr)
  | ((with_reducible show Stb (Vd.fi _ _) _); exact Stb.fi)
  | ((with_reducible show Stbs [] _); with_reducible exact Stbs.nil)
  | ((with_reducible show Stbs (_ :: _) _); exact Stbs.cons (by walk_at "dt") (by walk_at "dt")))
local macro_rules | `(tactic| walk_at "dg") => `(tactic| first
  | ((with_reducible show GV _ gNil _ _ _); with_reducible exact gv_nil)
  | ((with_reducible show GV _ (gCons (gName _) _) (_ :: _) _ _); exact gv_cons (by walk_at "dg")))
local macro_rules | `(tactic| walk_at "sv") => `(tactic| first
  | with_reducible refine sv_seq ?_
  | with_reducible refine sv_next ?_
  | ((with_reducible show SV _ _ (tIfS _ _ _) _ _); refine sv_if (by walk_at "dv") ?_ ?_)
  | ((with_reducible show SV _ _ (tRet _) _ _); refine sv_retV (by walk_at "dv") (by walk_at "dt") ?_)
  | ((with_reducible show SV _ _ (tAsg _ (gTup _ _ _)) _ _); refine sv_tup (ee_of (by walk_at "dv") (by walk_at "dt")) (by rfl) (by walk_at "dg") ?_)
  | ((with_reducible show SV _ _ (tAsg _ (gName _)) _ _); refine sv_setV (by walk_at "dv") (by walk_at "dt") ?_)
  | ((with_reducible show SV _ _ (tPar _ _ _) _ _); refine sv_par (by walk_at "dv") (by walk_at "dt") ?_)
  | ((with_reducible show SV _ _ (tRaise0 _ _) _ _); refine sv_raise0 ?_)
  | ((with_reducible show SV _ _ (tRaise1 _ _ _ _) _ _); refine sv_raise1 (by walk_at "dv") (by walk_at "dt") ?_)
  | ((with_reducible refine thn_nx ?_); try dsimp only [List.set]))
local macro_rules | `(tactic| walk_at "sx") => `(tactic| first | (intro hx; exact absurd hx (by decide)) | (intro hx; exfalso; simp at hx))
local macro_rules | `(tactic| walk_at "bo") => `(tactic| (simp only [Bool.or_eq_true, Bool.not_eq_true', Bool.and_eq_false_iff, Bool.or_eq_false_iff, Bool.not_eq_false', decide_eq_false_iff_not, decide_eq_true_eq, Bool.and_eq_true, Bool.eq_false_iff, ne_eq, Bool.true_and, Bool.and_true] at * <;> omega))
section
variable {P : Program} {w : World} {K : Frag} {mg : Str → Option Value} {base : Heap} {cS cI cU cT cM cD cNU cNR : Addr}
theorem ed_skd (s : Sk) : Ed 4 s.d := Eds.tup (.cons ((Ed.int _).mono (by decide)) (.cons (ed_kss s.kss) (.cons ((ed_tupD [s.cam.r, s.cam.b, s.cam.g, s.cam.l]).mono (by decide)) .nil)))
theorem eqok_skd (s : Sk) : eqOk s.d = true := (ed_skd s).ok (by decide)
theorem eqD_skd (s : Sk) : eqD s.d s.d = true := eqD_refl (ed_skd s).f
/-- the slots of the law at a turn -/
abbrev LawS (xs ns : List Int) (s0 : Sk) (cD cS : Addr) (d : Dk) (s6 s7 s8 s9 s10 s11 s12 : Sl) : List Sl :=
  [.im (.lst (xs.map D.int)), .im (.lst (ns.map D.int)), .im s0.d, .ow (.ins cD (d.fs cS)), .ow (.lst ((d.past ++ [d.st]).map Sk.d)), .ow (.lst (d.fut.reverse.map Sk.d)), s6, s7, s8, s9, s10, s11, s12]
def Dk.all (d : Dk) : Prop := d.st.solid ∧ (∀ s ∈ d.past, s.solid) ∧ ∀ s ∈ d.fut, s.solid
theorem ev_last {K : Frag} {xs ns : List Int} {s0 : Sk} {d : Dk} {s6 s7 s8 s9 s10 s11 s12 : Sl} : EV K (tOp (rIx K) (tVar 4) (tUn (rU fun i => V.int (-i)) (tC (V.int 1)))) (LawS xs ns s0 cD cS d s6 s7 s8 s9 s10 s11 s12) (.st d.st.d) :=
  ev_op (ev_own rfl) (ev_un ev_int neg_int) (ix_lst .ls (by rw [List.map_append]; exact atI_last))
theorem partsM_solid {ns : List Int} {at' most : Nat} (hm : most ≤ 20) (hb : ∀ x ∈ ns, 0 ≤ x ∧ x < 1009) : (partsM ns at' most).solid := by
  have hs := pSide_in ns at'
  have hr := pReach_in ns at'
  have hbl := pBlur_in ns at'
  have hc : (pCam ns at').sm := ⟨by show (pReach ns at').natAbs < 2 ^ 60; omega, by show (pBlur ns at').natAbs < 2 ^ 60; omega⟩
  have hh : 2 * pHalf ns at' + 1 ≤ pSide ns at' := by unfold pHalf; omega
  have hg : 0 ≤ ns.getD (at' + 3) 0 % 3 ∧ ns.getD (at' + 3) 0 % 3 < 3 := ⟨Int.emod_nonneg _ (by decide), Int.emod_lt_of_pos _ (by decide)⟩
  have hl : 1 ≤ [1, 2, 3, 5, 9].getD (ns.getD (at' + 4) 0 % 5).toNat (0 : Int) ∧ [1, 2, 3, 5, 9].getD (ns.getD (at' + 4) 0 % 5).toNat (0 : Int) ≤ 9 := by
    have h1 : (ns.getD (at' + 4) 0 % 5).toNat < 5 := by
      have := Int.emod_lt_of_pos (ns.getD (at' + 4) 0) (show (0 : Int) < 5 by decide)
      omega
    generalize (ns.getD (at' + 4) 0 % 5).toNat = n at h1
    match n, h1 with
    | 0, _ => decide
    | 1, _ => decide
    | 2, _ => decide
    | 3, _ => decide
    | 4, _ => decide
  have hcam : (pCam ns at').ok (pSide ns at') = true := by
    show camB _ (pReach ns at') (pBlur ns at') (ns.getD (at' + 3) 0 % 3) ([1, 2, 3, 5, 9].getD (ns.getD (at' + 4) 0 % 5).toNat 0) = true
    unfold camB
    split
    · rename_i k
      simp only [Bool.or_eq_true, Bool.not_eq_true', Bool.and_eq_false_iff, decide_eq_false_iff_not] at k
      omega
    · simp only [Bool.and_eq_true, decide_eq_true_eq]
      omega
  obtain ⟨q1, q2⟩ := pStars_kss ns at' (ns.getD (at' + 5) 0 % (most + 1)).toNat
  have hk5 := Int.emod_lt_of_pos (ns.getD (at' + 5) 0) (show (0 : Int) < most + 1 by omega)
  have hst : ∀ n : Nat, (∀ k ∈ pStars ns at' n, starK (pSide ns at') k = true) ∧ (pStars ns at' n).Nodup := by
    intro n
    induction n with
    | zero => exact ⟨(fun k h => by cases h), List.nodup_nil⟩
    | succ n ih =>
      unfold pStars
      split
      · exact ih
      · rename_i hn
        refine ⟨fun k hk => ?_, List.nodup_append.mpr ⟨ih.2, by simp, fun a ha c hc e => hn (by rw [List.mem_singleton.mp hc] at e; rw [← e]; exact ha)⟩⟩
        rcases List.mem_append.mp hk with hk | hk
        · exact ih.1 k hk
        · rw [List.mem_singleton.mp hk]
          have h9 : 0 ≤ ns.getD (at' + 6 + 3 * n + 2) 0 % 9 ∧ ns.getD (at' + 6 + 3 * n + 2) 0 % 9 < 9 := ⟨Int.emod_nonneg _ (by decide), Int.emod_lt_of_pos _ (by decide)⟩
          show starB (pSide ns at') _ _ _ = true
          unfold starB
          simp only [Bool.and_eq_true, decide_eq_true_eq]
          exact ⟨⟨Int.emod_nonneg _ (by omega), Int.emod_lt_of_pos _ (by omega)⟩, ⟨Int.emod_nonneg _ (by omega), Int.emod_lt_of_pos _ (by omega)⟩, by omega, by omega⟩
  have e : (⟨pSide ns at', pStars ns at' (ns.getD (at' + 5) 0 % (most + 1)).toNat, pCam ns at'⟩ : Sk).ok = true :=
    (Sk.ok_iff _).mpr ⟨hs, hcam, by show (pStars ns at' _).length ≤ 20; omega, (hst _).1, (hst _).2⟩
  exact Sk.solid_mk (fun k hk => (q1 k hk).1) hc e
theorem deedM_sm (s : Sk) (ns : List Int) (at' : Nat) : (deedM s ns at').sm := by
  unfold deedM
  dsimp only
  split
  · generalize s.kss.getD _ [] = k
    unfold ofStar
    split <;> exact True.intro
  · split
    · exact True.intro
    · split
      · exact True.intro
      · split
        · generalize ns.getD (at' + 1) 0 = one
          generalize ns.getD (at' + 1 + 1) 0 = two
          generalize ns.getD (at' + 1 + 2) 0 = three
          have h1 : 0 ≤ one % 4 ∧ one % 4 < 4 := ⟨Int.emod_nonneg _ (by decide), Int.emod_lt_of_pos _ (by decide)⟩
          have h2 : 0 ≤ two % 3 ∧ two % 3 < 3 := ⟨Int.emod_nonneg _ (by decide), Int.emod_lt_of_pos _ (by decide)⟩
          have h3 : three % 2 = 0 ∨ three % 2 = 1 := by omega
          refine ⟨by show (one % 4).natAbs < 2 ^ 60; omega, ?_⟩
          show (two % 3 * (three % 2)).natAbs < 2 ^ 60
          rcases h3 with e | e <;> rw [e] <;> omega
        · exact True.intro
theorem behM_ok {s s' : Sk} {dd : Dd} (h : s.solid) (hm : dd.sm) (e : behM s dd = .ok s') : s'.solid := by
  have l3 := h.good.l3
  have cs := h.good.cs
  cases dd with
  | star x y b =>
    by_cases hin : decide ([x, y, b] ∈ s.kss) = true
    · have e2 : behM s (.star x y b) = .no "taken" (tupD [x, y, b]) := if_pos hin
      rw [e2] at e; cases e
    · have e2 : behM s (.star x y b) = if goodB s.side x y b s.kss.length = true then .ok (withS s [x, y, b]).mk' else .no "sky" .non := if_neg hin
      rw [e2] at e
      by_cases hg : goodB s.side x y b s.kss.length = true
      · rw [if_pos hg] at e
        cases e
        refine Sk.solid_mk (fun k hk => ?_) cs (by rw [withS_ok h (fun z => hin (decide_eq_true z))]; exact hg)
        rcases List.mem_append.mp hk with hk | hk
        · exact l3 k hk
        · rw [List.mem_singleton.mp hk]; rfl
      · rw [if_neg hg] at e; cases e
  | noStar n =>
    by_cases hin : inB n s.kss.length = true
    · have e2 : behM s (.noStar n) = .ok (dropS s n.toNat) := if_pos hin
      rw [e2] at e
      cases e
      obtain ⟨o1, o2⟩ := dropS_ok h n.toNat
      rw [← o2]
      refine Sk.solid_mk (fun k hk => ?_) cs o1
      rcases List.mem_append.mp hk with hk | hk
      · exact l3 k (List.mem_of_mem_take hk)
      · exact l3 k (List.mem_of_mem_drop hk)
    · have e2 : behM s (.noStar n) = .no "star" (.int n) := if_neg hin
      rw [e2] at e; cases e
  | cam c =>
    obtain ⟨o1, o2⟩ := withC_ok h c
    by_cases hin : camB s.side c.r c.b c.g c.l = true
    · have e2 : behM s (.cam c) = .ok (withC s c) := if_pos hin
      rw [e2] at e
      cases e
      rw [← o2]
      exact Sk.solid_mk l3 hm (by rw [o1]; exact hin)
    · have e2 : behM s (.cam c) = .no "sky" .non := if_neg hin
      rw [e2] at e; cases e
  | move a b q =>
    by_cases hin : motB s.side a b q = true
    · have e2 : behM s (.move a b q) = .ok (movS s a b q).mk' := if_pos hin
      rw [e2] at e
      cases e
      have hq := hin
      unfold motB at hq
      simp only [Bool.and_eq_true, decide_eq_true_eq] at hq
      refine Sk.solid_mk (fun k hk => ?_) cs (movS_ok h hq.2.2.1 hq.2.2.2)
      obtain ⟨k0, hk0, rfl⟩ := List.mem_map.mp hk
      obtain ⟨x, y, c, rfl⟩ := star3 (l3 k0 hk0)
      rfl
    · have e2 : behM s (.move a b q) = .no "motion" (tupD [a, b, q]) := if_neg hin
      rw [e2] at e; cases e
theorem behM_no {s : Sk} {dd : Dd} {wd : Str} {v : D} (e : behM s dd = .no wd v) : Ed 3 (.tup [.str wd, v]) := by
  have mk : ∀ (w : Str) (u : D), (PyData.str w).canLay0 = true → Ed 2 u → Ed 3 (.tup [.str w, u]) := fun w u h1 h2 => Eds.tup (.cons ((Ed.str h1).mono (by decide)) (.cons h2 .nil))
  cases dd with
  | star x y b =>
    unfold behM at e
    dsimp only at e
    split at e
    · cases e; exact mk _ _ (by decide +kernel) (ed_tupD _)
    · split at e
      · cases e
      · cases e; exact mk _ _ (by decide +kernel) (Ed.non.mono (by decide))
  | noStar n =>
    unfold behM at e
    dsimp only at e
    split at e
    · cases e
    · cases e; exact mk _ _ (by decide +kernel) ((Ed.int _).mono (by decide))
  | cam c =>
    unfold behM at e
    dsimp only at e
    split at e
    · cases e
    · cases e; exact mk _ _ (by decide +kernel) (Ed.non.mono (by decide))
  | move a b q =>
    unfold behM at e
    dsimp only at e
    split at e
    · cases e
    · cases e; exact mk _ _ (by decide +kernel) (ed_tupD _)
def R_law (ds : List D) (r : Res) : Prop := ∃ xs : List Int, ds = [.lst (xs.map D.int)] ∧ xs.length ≤ 63 ∧ r = .ret (.bl true)
end
end DL

set_option maxRecDepth 100000
set_option maxHeartbeats 400000
namespace DL
open PySem L2
local macro_rules | `(tactic| walk_at "ds") => `(tactic| first | with_reducible assumption | exact eqok_tupD _ | exact eqok_kss _ | exact eqok3 | with_unfolding_all exact Eq.refl _ | exact Nat.le_of_ble_eq_true (Eq.refl true) | omega | decide | exact cdivW (by omega))
local macro_rules | `(tactic| walk_at "dv") => `(tactic| first
  | ((with_reducible show EV _ (tVar _) _ _); first | exact ev_var (by with_unfolding_all exact Eq.refl _) | exact ev_own (by with_unfolding_all exact Eq.refl _) | exact ev_ownI (by with_unfolding_all exact Eq.refl _))
  | ((with_reducible show EV _ (tC _) _ _); with_reducible first | exact ev_int | exact ev_str | exact ev_bl | exact ev_non)
  | ((with_reducible show EV _ (tOp _ _ _) _ _); exact ev_op (by walk_at "dv") (by walk_at "dv") (by walk_at "do"))
  | ((with_reducible show EV _ (tUn _ _) _ _); exact ev_un (by walk_at "dv") (by with_reducible exact neg_int))
  | ((with_reducible show EV _ (tChain _ _ _ _ _) _ _); exact ev_chain (by walk_at "dv") (by walk_at "dv") (by walk_at "do") (fun _ => by walk_at "dv") (fun _ => by walk_at "do"))
  | ((with_reducible show EV _ (tCB _ _) _ _); exact ev_cb (by walk_at "dv") (by walk_at "dc"))
  | ((with_reducible show EV _ (tAndV _ _) _ _); exact ev_andV (by walk_at "dv") (fun _ => by walk_at "dv"))
  | ((with_reducible show EV _ (tOrV _ _) _ _); exact ev_orV (by walk_at "dv") (fun _ => by walk_at "dv"))
  | ((with_reducible show EV _ (tNotV _) _ _); exact ev_notV (by walk_at "dv"))
  | ((with_reducible show EV _ (tIf _ _ _) _ _); exact ev_if (by walk_at "dv") (fun _ => by walk_at "dv") (fun _ => by walk_at "dv"))
  | ((with_reducible show EV _ (tSl _ _ _ _) _ _); exact ev_sl (by walk_at "dv") (by walk_at "dv") (by walk_at "dv") (by walk_at "dl"))
  | ((with_reducible show EV _ (tTup _) _ _); exact ev_tup (by walk_at "dv") (by walk_at "dt") (by walk_at "ds"))
  | ((with_reducible show EV _ (tLst _) _ _); exact ev_lst (by walk_at "dv") (by walk_at "dt") (by walk_at "ds"))
  | ((with_reducible show AV _ tNil _ _); exact av_nil)
  | ((with_reducible show AV _ (tCons _ _) _ _); exact av_cons (by walk_at "dv") (by walk_at "dv"))
  | ((with_reducible show OV _ tNoPart _ _); exact ov_none)
  | ((with_reducible show OV _ (tPart _) _ _); exact ov_some (by walk_at "dv"))
  | ((with_reducible show TV _ (tTest _) _ _); exact tv_test (by walk_at "dv"))
  | ((with_reducible show TV _ (tB _) _ _); exact tv_B (by walk_at "dv"))
  | ((with_reducible show TV _ (tNot _) _ _); exact tv_not (by walk_at "dv"))
  | ((with_reducible show TV _ (tAnd _ _) _ _); exact tv_and (by walk_at "dv") (fun _ => by walk_at "dv"))
  | ((with_reducible show TV _ (tOr _ _) _ _); exact tv_or (by walk_at "dv") (fun _ => by walk_at "dv"))
  | ((fail_if_success (with_reducible first | show TV _ (tTest _) _ _ | show TV _ (tB _) _ _ | show TV _ (tNot _) _ _ | show TV _ (tAnd _ _) _ _ | show TV _ (tOr _ _) _ _)); (with_reducible show TV _ _ _ _); exact tv_truB (by walk_at "dv"))
  | ((with_reducible show EV _ (tCallS _ _ _) _ _); exact ev_call (by walk_at "dv") (by walk_at "dt") (by walk_at "dr"))
  | ((with_reducible show EV _ (tFld _ _ _) _ _); exact ev_fld (by walk_at "dv") (by first | exact .st | exact .li | exact .fi) (by with_reducible assumption) (by with_reducible assumption) (by with_unfolding_all exact Eq.refl _))
  | ((with_reducible show EV _ (tProp _ _ _ _ _) _ _); exact ev_prop (by walk_at "dv") (by walk_at "dt") (by walk_at "dr"))
  | ((with_reducible show EV _ (tMethW _ _ _ _ _ _) _ _); exact ev_meth (by walk_at "dv") (by with_unfolding_all exact Eq.refl _) (by walk_at "dv") (by walk_at "dt") (by walk_at "dr")))
local macro_rules | `(tactic| walk_at "do") => `(tactic| with_reducible first
  | exact add_int | exact sub_int | exact lt_int | exact le_int | exact gt_int | exact ge_int
  | exact ix_lst .st (by assumption) | exact ix_lst .fr (by assumption) | exact ix_lst .ls (by assumption) | exact ix_tup (by assumption)
  | exact ix_tup (by with_unfolding_all exact Eq.refl _) | exact ix_lst .st (by with_unfolding_all exact Eq.refl _) | exact ix_lst .ls (by with_unfolding_all exact Eq.refl _) | exact ix_lst .fr (by with_unfolding_all exact Eq.refl _)
  | exact eq_int | exact ne_int | exact eq_strV | exact eq_str (by walk_at "ds") (by walk_at "ds") | exact ne_str (by walk_at "ds") (by walk_at "ds")
  | exact eq_dat .st .st (by walk_at "ds") (by walk_at "ds") | exact ne_dat .st .st (by walk_at "ds") (by walk_at "ds")
  | exact notin_lst .st .ls (by walk_at "ds") (by walk_at "ds") | exact in_lst .st .st (by walk_at "ds") (by walk_at "ds") | exact in_lst .st .ls (by walk_at "ds") (by walk_at "ds")
  | exact in_tup .st (by walk_at "ds") (by walk_at "ds")
  | exact mul_int (by walk_at "ds") | exact mod_int (by walk_at "ds") | exact fdiv_int (by walk_at "ds"))
local macro_rules | `(tactic| walk_at "dc") => `(tactic| with_reducible first
  | exact len_tup | exact len_lst .st | exact len_lst .ls | exact len_lst .fr
  | exact abs_int | exact max2_int | exact min2_int | exact min3_int | exact int_int | exact int_bl
  | exact list_tup | exact list_lst .st | exact list_lst .ls | exact list_lst .fr
  | exact all_bls .st | exact all_bls .ls | exact all_bls .fr)
local macro_rules | `(tactic| walk_at "dt") => `(tactic| first
  | ((with_reducible show Stb (Vd.st _) _); exact Stb.st)
  | ((with_reducible show Stb (Vd.fr _) _); exact Stb.fr)
  | ((with_reducible show Stb (Vd.fi _ _) _); exact Stb.fi)
  | ((with_reducible show Stbs [] _); with_reducible exact Stbs.nil)
  | ((with_reducible show Stbs (_ :: _) _); exact Stbs.cons (by walk_at "dt") (by walk_at "dt")))
local macro_rules | `(tactic| walk_at "dg") => `(tactic| first
  | ((with_reducible show GV _ gNil _ _ _); with_reducible exact gv_nil)
  | ((with_reducible show GV _ (gCons (gName _) _) (_ :: _) _ _); exact gv_cons (by walk_at "dg")))
local macro_rules | `(tactic| walk_at "sv") => `(tactic| first
  | with_reducible refine sv_seq ?_
  | with_reducible refine sv_next ?_
  | ((with_reducible show SV _ _ (tIfS _ _ _) _ _); refine sv_if (by walk_at "dv") ?_ ?_)
  | ((with_reducible show SV _ _ (tRet _) _ _); refine sv_retV (by walk_at "dv") (by walk_at "dt") ?_)
  | ((with_reducible show SV _ _ (tAsg _ (gTup _ _ _)) _ _); refine sv_tup (ee_of (by walk_at "dv") (by walk_at "dt")) (by rfl) (by walk_at "dg") ?_)
  | ((with_reducible show SV _ _ (tAsg _ (gName _)) _ _); refine sv_setV (by walk_at "dv") (by walk_at "dt") ?_)
  | ((with_reducible show SV _ _ (tPar _ _ _) _ _); refine sv_par (by walk_at "dv") (by walk_at "dt") ?_)
  | ((with_reducible show SV _ _ (tRaise0 _ _) _ _); refine sv_raise0 ?_)
  | ((with_reducible show SV _ _ (tRaise1 _ _ _ _) _ _); refine sv_raise1 (by walk_at "dv") (by walk_at "dt") ?_)
  | ((with_reducible refine thn_nx ?_); try dsimp only [List.set]))
local macro_rules | `(tactic| walk_at "sx") => `(tactic| first | (intro hx; exact absurd hx (by decide)) | (intro hx; exfalso; simp at hx))
local macro_rules | `(tactic| walk_at "bo") => `(tactic| (simp only [Bool.or_eq_true, Bool.not_eq_true', Bool.and_eq_false_iff, Bool.or_eq_false_iff, Bool.not_eq_false', decide_eq_false_iff_not, decide_eq_true_eq, Bool.and_eq_true, Bool.eq_false_iff, ne_eq, Bool.true_and, Bool.and_true] at * <;> omega))
section
variable {P : Program} {w : World} {K : Frag} {mg : Str → Option Value} {base : Heap} {cS cI cU cT cM cD cNU cNR cNB : Addr}
/-! a change by its way: what the desk's methods give -/
def Dd.arg : Dd → D
  | .star x y b => tupD [x, y, b]
  | .noStar n => .int n
  | .cam c => c.d
  | .move a b q => tupD [a, b, q]
def rsOf (cS cI cU cT cM : Addr) : Dd → List D → Res → Prop
  | .star _ _ _ => R_with_star cS cI cT
  | .noStar _ => R_without_star cS cI cU
  | .cam _ => R_with_camera cS cI
  | .move _ _ _ => R_moved cS cI cM
/-- the error of a word -/
def excR (cI cU cT cM : Addr) (wd : Str) (v : D) : Res :=
  if wd = "taken" then .exc cT (some [("star", v)]) else if wd = "star" then .exc cU (some [("number", v)]) else if wd = "motion" then .exc cM (some [("motion", v)]) else .exc cI none
theorem chg_ok {d : Dk} {dd : Dd} {s' : Sk} (hs : d.st.solid) (hm : dd.sm) (hl : d.past.length ≤ 1000) (e : behM d.st dd = .ok s') : R_chg cS (rsOf cS cI cU cT cM dd) (d.fs cS) [dd.arg] (.ret .non) ((d.push s').fs cS) := by
  have hg := hs.good
  cases dd with
  | star x y b =>
    by_cases hin : decide ([x, y, b] ∈ d.st.kss) = true
    · rw [show behM d.st (.star x y b) = .no "taken" (tupD [x, y, b]) from if_pos hin] at e
      cases e
    · have hok := withS_ok hs (fun z => hin (decide_eq_true z))
      rw [show behM d.st (.star x y b) = if goodB d.st.side x y b d.st.kss.length = true then .ok (withS d.st [x, y, b]).mk' else .no "sky" .non from if_neg hin] at e
      by_cases hgd : goodB d.st.side x y b d.st.kss.length = true
      · rw [if_pos hgd] at e
        rw [hgd] at hok
        cases e
        refine ⟨d, tupD [x, y, b], .ret (skD cS (withS d.st [x, y, b]).mk'), rfl, rfl, hl, ⟨d.st, [x, y, b], rfl, rfl, hg, ?_⟩, .inl ⟨_, rfl, rfl, rfl⟩⟩
        rw [if_neg hin]
        unfold skyR
        rw [if_pos hok]
        rfl
      · rw [if_neg hgd] at e
        cases e
  | noStar n =>
    by_cases hin : inB n d.st.kss.length = true
    · rw [show behM d.st (.noStar n) = .ok (dropS d.st n.toNat) from if_pos hin] at e
      cases e
      obtain ⟨o1, o2⟩ := dropS_ok hs n.toNat
      refine ⟨d, .int n, .ret (skD cS (dropS d.st n.toNat)), rfl, rfl, hl, ⟨d.st, n, rfl, hg, ?_⟩, .inl ⟨_, rfl, rfl, rfl⟩⟩
      rw [if_pos hin]
      unfold skyR
      rw [if_pos o1, o2]
      rfl
    · rw [show behM d.st (.noStar n) = .no "star" (.int n) from if_neg hin] at e
      cases e
  | cam c =>
    obtain ⟨o1, o2⟩ := withC_ok hs c
    by_cases hin : camB d.st.side c.r c.b c.g c.l = true
    · rw [show behM d.st (.cam c) = .ok (withC d.st c) from if_pos hin] at e
      rw [hin] at o1
      cases e
      refine ⟨d, c.d, .ret (skD cS (withC d.st c)), rfl, rfl, hl, ⟨d.st, c, rfl, hm, hg, ?_⟩, .inl ⟨_, rfl, rfl, rfl⟩⟩
      unfold skyR
      rw [if_pos o1, o2]
      rfl
    · rw [show behM d.st (.cam c) = .no "sky" .non from if_neg hin] at e
      cases e
  | move a b q =>
    by_cases hin : motB d.st.side a b q = true
    · rw [show behM d.st (.move a b q) = .ok (movS d.st a b q).mk' from if_pos hin] at e
      cases e
      have hq := hin
      unfold motB at hq
      simp only [Bool.and_eq_true, decide_eq_true_eq] at hq
      have o1 := movS_ok hs (a := a) (b := b) hq.2.2.1 hq.2.2.2
      refine ⟨d, tupD [a, b, q], .ret (skD cS (movS d.st a b q).mk'), rfl, rfl, hl, ⟨d.st, a, b, q, rfl, hg, ?_⟩, .inl ⟨_, rfl, rfl, rfl⟩⟩
      rw [if_pos hin]
      unfold skyR
      rw [if_pos o1]
      rfl
    · rw [show behM d.st (.move a b q) = .no "motion" (tupD [a, b, q]) from if_neg hin] at e
      cases e
theorem chg_no {d : Dk} {dd : Dd} {wd : Str} {v : D} (hs : d.st.solid) (hm : dd.sm) (hl : d.past.length ≤ 1000) (e : behM d.st dd = .no wd v) : R_chg cS (rsOf cS cI cU cT cM dd) (d.fs cS) [dd.arg] (excR cI cU cT cM wd v) (d.fs cS) := by
  have hg := hs.good
  cases dd with
  | star x y b =>
    by_cases hin : decide ([x, y, b] ∈ d.st.kss) = true
    · rw [show behM d.st (.star x y b) = .no "taken" (tupD [x, y, b]) from if_pos hin] at e
      cases e
      exact ⟨d, tupD [x, y, b], .exc cT (some [("star", tupD [x, y, b])]), rfl, rfl, hl, ⟨d.st, [x, y, b], rfl, rfl, hg, (if_pos hin).symm⟩, .inr ⟨cT, _, rfl, rfl, rfl⟩⟩
    · have hok := withS_ok hs (fun z => hin (decide_eq_true z))
      rw [show behM d.st (.star x y b) = if goodB d.st.side x y b d.st.kss.length = true then .ok (withS d.st [x, y, b]).mk' else .no "sky" .non from if_neg hin] at e
      by_cases hgd : goodB d.st.side x y b d.st.kss.length = true
      · rw [if_pos hgd] at e
        cases e
      · rw [if_neg hgd] at e
        cases e
        refine ⟨d, tupD [x, y, b], .exc cI none, rfl, rfl, hl, ⟨d.st, [x, y, b], rfl, rfl, hg, ?_⟩, .inr ⟨cI, _, rfl, rfl, rfl⟩⟩
        rw [if_neg hin]
        unfold skyR
        rw [if_neg (by rw [hok]; exact hgd)]
  | noStar n =>
    by_cases hin : inB n d.st.kss.length = true
    · rw [show behM d.st (.noStar n) = .ok (dropS d.st n.toNat) from if_pos hin] at e
      cases e
    · rw [show behM d.st (.noStar n) = .no "star" (.int n) from if_neg hin] at e
      cases e
      exact ⟨d, .int n, .exc cU (some [("number", .int n)]), rfl, rfl, hl, ⟨d.st, n, rfl, hg, (if_neg hin).symm⟩, .inr ⟨cU, _, rfl, rfl, rfl⟩⟩
  | cam c =>
    obtain ⟨o1, o2⟩ := withC_ok hs c
    by_cases hin : camB d.st.side c.r c.b c.g c.l = true
    · rw [show behM d.st (.cam c) = .ok (withC d.st c) from if_pos hin] at e
      cases e
    · rw [show behM d.st (.cam c) = .no "sky" .non from if_neg hin] at e
      cases e
      refine ⟨d, c.d, .exc cI none, rfl, rfl, hl, ⟨d.st, c, rfl, hm, hg, ?_⟩, .inr ⟨cI, _, rfl, rfl, rfl⟩⟩
      unfold skyR
      rw [if_neg (by rw [o1]; exact hin)]
  | move a b q =>
    by_cases hin : motB d.st.side a b q = true
    · rw [show behM d.st (.move a b q) = .ok (movS d.st a b q).mk' from if_pos hin] at e
      cases e
    · rw [show behM d.st (.move a b q) = .no "motion" (tupD [a, b, q]) from if_neg hin] at e
      cases e
      exact ⟨d, tupD [a, b, q], .exc cM (some [("motion", tupD [a, b, q])]), rfl, rfl, hl, ⟨d.st, a, b, q, rfl, hg, (if_neg hin).symm⟩, .inr ⟨cM, _, rfl, rfl, rfl⟩⟩
/-- one change of a list: a plain one, or a list by RA -/
def R_make (cS cI cU cT cM : Addr) (RA : List (Str × D) → List D → Res → List (Str × D) → Prop) (fs : List (Str × D)) (ds : List D) (r : Res) (fs' : List (Str × D)) : Prop := ∃ d : Dk, fs = d.fs cS ∧
  ((∃ dd : Dd, ds = [dd.d] ∧ R_chg cS (rsOf cS cI cU cT cM dd) fs [dd.arg] r fs' ∧ (r = .ret .non ∨ ∃ C fx, r = .exc C fx)) ∨ ∃ x, ds = [.tup [.str "all", x]] ∧ RA fs [x] r fs' ∧ (r = .ret .non ∨ ∃ C fx, r = .exc C fx))
theorem f_make {RA : List (Str × D) → List D → Res → List (Str × D) → Prop} {j : Nat} (hj : 6 ≤ j) {f : Addr} {fd : FuncData} (F : Fun K "make" "Desk.make" s_Desk_make f fd) (m_Desk_put_star : MthN P w K mg base 5 cD "put_star" (spM K cD (R_chg cS (R_with_star cS cI cT)))) (m_Desk_drop_star : MthN P w K mg base 6 cD "drop_star" (spM K cD (R_chg cS (R_without_star cS cI cU))))
    (m_Desk_set_camera : MthN P w K mg base 5 cD "set_camera" (spM K cD (R_chg cS (R_with_camera cS cI)))) (m_Desk_move_sky : MthN P w K mg base 5 cD "move_sky" (spM K cD (R_chg cS (R_moved cS cI cM)))) (m_Desk_change_all : MthN P w K mg base j cD "change_all" (spM K cD RA)) :
    FnOk P w K mg base (L2.CX P w) (j + 1) f fd ["self", "deed"] (spM K cD (R_make cS cI cU cT cM RA)) := by
  refine fnM F sc_Desk_make ?_ fun cdv A outer s H E hr => ?_
  rotate_left
  have tk : Takes (cx P w K mg base N_Desk_make "Desk.make" s_Desk_make f cdv A outer s H E) (wE E) := takes_of rfl rfl rfl rfl
  have po : PassesOwn (model (cx P w K mg base N_Desk_make "Desk.make" s_Desk_make f cdv A outer s H E).prog (cx P w K mg base N_Desk_make "Desk.make" s_Desk_make f cdv A outer s H E).w) (cx P w K mg base N_Desk_make "Desk.make" s_Desk_make f cdv A outer s H E).A (cx P w K mg base N_Desk_make "Desk.make" s_Desk_make f cdv A outer s H E).env (cx P w K mg base N_Desk_make "Desk.make" s_Desk_make f cdv A outer s H E).xe := passes_of (X := cx P w K mg base N_Desk_make "Desk.make" s_Desk_make f cdv A outer s H E) rfl
  have sc := sc_Desk_make
  refine ⟨_, (pss_one (ps_if (pt_cmpR (op_eqD hr.units) (pe_ix ix_seq (pv 1) pe_int (fun _ _ => rfl)) pe_str (nomark _)) (pss_one (ps_expr (u_meth m_Desk_put_star tk hr (by first | decide | omega) (pv 0) (pa_cons (pe_ix ix_seq (pv 1) pe_int (fun _ _ => rfl)) pa_nil)))) (pss_one (ps_if (pt_cmpR (op_eqD hr.units) (pe_ix ix_seq (pv 1) pe_int (fun _ _ => rfl)) pe_str (nomark _)) (pss_one (ps_expr (u_meth m_Desk_drop_star tk hr (by first | decide | omega) (pv 0) (pa_cons (pe_ix ix_seq (pv 1) pe_int (fun _ _ => rfl)) pa_nil)))) (pss_one (ps_if (pt_cmpR (op_eqD hr.units) (pe_ix ix_seq (pv 1) pe_int (fun _ _ => rfl)) pe_str (nomark _)) (pss_one (ps_expr (u_meth m_Desk_set_camera tk hr (by first | decide | omega) (pv 0) (pa_cons (pe_ix ix_seq (pv 1) pe_int (fun _ _ => rfl)) pa_nil)))) (pss_one (ps_if (pt_cmpR (op_eqD hr.units) (pe_ix ix_seq (pv 1) pe_int (fun _ _ => rfl)) pe_str (nomark _)) (pss_one (ps_expr (u_meth m_Desk_move_sky tk hr (by first | decide | omega) (pv 0) (pa_cons (pe_ix ix_seq (pv 1) pe_int (fun _ _ => rfl)) pa_nil)))) (pss_one (ps_expr (u_meth m_Desk_change_all tk hr (by first | decide | omega) (pv 0) (pa_cons (pe_ix ix_seq (pv 1) pe_int (fun _ _ => rfl)) pa_nil)))))))))))), ?_⟩
  try simp only [show (cx P w K mg base N_Desk_make "Desk.make" s_Desk_make f cdv A outer s H E).K = K from rfl, show (cx P w K mg base N_Desk_make "Desk.make" s_Desk_make f cdv A outer s H E).prog = P from rfl, show (cx P w K mg base N_Desk_make "Desk.make" s_Desk_make f cdv A outer s H E).w = w from rfl]
  clear tk po sc
  · rintro fs ds r fs' ⟨d, rfl, ⟨dd, rfl, hR, hr⟩ | ⟨x, rfl, hR, hr⟩⟩
    · cases dd with
      | star x y b =>
        simp only [startM, Dd.d, List.map_cons, List.map_nil, List.length_cons, List.length_nil, Nat.reduceAdd, Nat.reduceSub, List.reduceReplicate, List.cons_append, List.nil_append]
        refine sv_if (by walk_at "dv") ?_ ?_
        rotate_left
        · walk_at "sx"
        intro _
        rcases hr with rfl | ⟨C, fx, rfl⟩
        · exact sv_drop (ee_methO rfl rfl (av_cons (by walk_at "dv") av_nil) (.cons .st .nil) hR) ⟨rfl, rfl⟩
        · exact sv_dropX (xx_methO rfl rfl (av_cons (by walk_at "dv") av_nil) (.cons .st .nil) hR) ⟨rfl, rfl⟩
      | noStar n =>
        simp only [startM, Dd.d, List.map_cons, List.map_nil, List.length_cons, List.length_nil, Nat.reduceAdd, Nat.reduceSub, List.reduceReplicate, List.cons_append, List.nil_append]
        refine sv_if (by walk_at "dv") ?_ ?_
        · walk_at "sx"
        intro _
        refine sv_if (by walk_at "dv") ?_ ?_
        rotate_left
        · walk_at "sx"
        intro _
        rcases hr with rfl | ⟨C, fx, rfl⟩
        · exact sv_drop (ee_methO rfl rfl (av_cons (by walk_at "dv") av_nil) (.cons .st .nil) hR) ⟨rfl, rfl⟩
        · exact sv_dropX (xx_methO rfl rfl (av_cons (by walk_at "dv") av_nil) (.cons .st .nil) hR) ⟨rfl, rfl⟩
      | cam c =>
        simp only [startM, Dd.d, List.map_cons, List.map_nil, List.length_cons, List.length_nil, Nat.reduceAdd, Nat.reduceSub, List.reduceReplicate, List.cons_append, List.nil_append]
        refine sv_if (by walk_at "dv") ?_ ?_
        · walk_at "sx"
        intro _
        refine sv_if (by walk_at "dv") ?_ ?_
        · walk_at "sx"
        intro _
        refine sv_if (by walk_at "dv") ?_ ?_
        rotate_left
        · walk_at "sx"
        intro _
        rcases hr with rfl | ⟨C, fx, rfl⟩
        · exact sv_drop (ee_methO rfl rfl (av_cons (by walk_at "dv") av_nil) (.cons .st .nil) hR) ⟨rfl, rfl⟩
        · exact sv_dropX (xx_methO rfl rfl (av_cons (by walk_at "dv") av_nil) (.cons .st .nil) hR) ⟨rfl, rfl⟩
      | move a b q =>
        simp only [startM, Dd.d, List.map_cons, List.map_nil, List.length_cons, List.length_nil, Nat.reduceAdd, Nat.reduceSub, List.reduceReplicate, List.cons_append, List.nil_append]
        refine sv_if (by walk_at "dv") ?_ ?_
        · walk_at "sx"
        intro _
        refine sv_if (by walk_at "dv") ?_ ?_
        · walk_at "sx"
        intro _
        refine sv_if (by walk_at "dv") ?_ ?_
        · walk_at "sx"
        intro _
        refine sv_if (by walk_at "dv") ?_ ?_
        rotate_left
        · walk_at "sx"
        intro _
        rcases hr with rfl | ⟨C, fx, rfl⟩
        · exact sv_drop (ee_methO rfl rfl (av_cons (by walk_at "dv") av_nil) (.cons .st .nil) hR) ⟨rfl, rfl⟩
        · exact sv_dropX (xx_methO rfl rfl (av_cons (by walk_at "dv") av_nil) (.cons .st .nil) hR) ⟨rfl, rfl⟩
    · simp only [startM, List.map_cons, List.map_nil, List.length_cons, List.length_nil, Nat.reduceAdd, Nat.reduceSub, List.reduceReplicate, List.cons_append, List.nil_append]
      refine sv_if (by walk_at "dv") ?_ ?_
      · walk_at "sx"
      intro _
      refine sv_if (by walk_at "dv") ?_ ?_
      · walk_at "sx"
      intro _
      refine sv_if (by walk_at "dv") ?_ ?_
      · walk_at "sx"
      intro _
      refine sv_if (by walk_at "dv") ?_ ?_
      · walk_at "sx"
      intro _
      rcases hr with rfl | ⟨C, fx, rfl⟩
      · exact sv_drop (ee_methO rfl rfl (av_cons (by walk_at "dv") av_nil) (.cons .st .nil) hR) ⟨rfl, rfl⟩
      · exact sv_dropX (xx_methO rfl rfl (av_cons (by walk_at "dv") av_nil) (.cons .st .nil) hR) ⟨rfl, rfl⟩
  · rintro fs ds r fs' ⟨d, rfl, ⟨dd, rfl, hR, hr⟩ | ⟨x, rfl, hR, hr⟩⟩ <;> rfl
/-- changes in a row, by RM -/
inductive Chn (cS : Addr) (RM : List (Str × D) → List D → Res → List (Str × D) → Prop) : Dk → List D → Res → Dk → Prop
  | nil (d : Dk) : Chn cS RM d [] (.ret .non) d
  | step {d d1 d2 : Dk} {x : D} {xs : List D} {r : Res} : RM (d.fs cS) [x] (.ret .non) (d1.fs cS) → Chn cS RM d1 xs r d2 → Chn cS RM d (x :: xs) r d2
  | stop {d d1 : Dk} {x : D} {xs : List D} {C : Addr} {fx : Option (List (Str × D))} : RM (d.fs cS) [x] (.exc C fx) (d1.fs cS) → Chn cS RM d (x :: xs) (.exc C fx) d1
def R_all (cS : Addr) (RM : List (Str × D) → List D → Res → List (Str × D) → Prop) (fs : List (Str × D)) (ds : List D) (r : Res) (fs' : List (Str × D)) : Prop := ∃ (d : Dk) (xs : List D) (d2 : Dk), fs = d.fs cS ∧ ds = [.lst xs] ∧ Chn cS RM ⟨d.st, d.past, d.fut, .tup []⟩ xs r d2 ∧
  ((r = .ret .non ∧ fs' = Dk.fs cS ⟨d2.st, d2.past, d2.fut, d.bl⟩) ∨ ((∃ C fx, r = .exc C fx) ∧ fs' = d.fs cS))
theorem f_change_all {RM : List (Str × D) → List D → Res → List (Str × D) → Prop} {j : Nat} (hj : 2 ≤ j) {f : Addr} {fd : FuncData} (F : Fun K "change_all" "Desk.change_all" s_Desk_change_all f fd) (dk : DeskC K cD) (c_Desk : ClsN P w K mg base 1 "Desk" cD (spM K cD (R_Desk_init cS))) (m_Desk_make : MthN P w K mg base j cD "make" (spM K cD RM)) :
    FnOk P w K mg base (L2.CX P w) (j + 1) f fd ["self", "deeds"] (spM K cD (R_all cS RM)) := by
  obtain ⟨c0, n1, n2, n3, n4, n5⟩ := dk
  refine fnM F sc_Desk_change_all ?_ fun cdv A outer s H E hr => ?_
  rotate_left
  have tk : Takes (cx P w K mg base N_Desk_change_all "Desk.change_all" s_Desk_change_all f cdv A outer s H E) (wE E) := takes_of rfl rfl rfl rfl
  have po : PassesOwn (model (cx P w K mg base N_Desk_change_all "Desk.change_all" s_Desk_change_all f cdv A outer s H E).prog (cx P w K mg base N_Desk_change_all "Desk.change_all" s_Desk_change_all f cdv A outer s H E).w) (cx P w K mg base N_Desk_change_all "Desk.change_all" s_Desk_change_all f cdv A outer s H E).A (cx P w K mg base N_Desk_change_all "Desk.change_all" s_Desk_change_all f cdv A outer s H E).env (cx P w K mg base N_Desk_change_all "Desk.change_all" s_Desk_change_all f cdv A outer s H E).xe := passes_of (X := cx P w K mg base N_Desk_change_all "Desk.change_all" s_Desk_change_all f cdv A outer s H E) rfl
  have sc := sc_Desk_change_all
  refine ⟨_, (pss_cons (ps_set (i := 2) sc.nd rfl (Or.inl rfl) (u_make c_Desk tk hr (by first | decide | omega) rfl (pa_cons (pe_fld (pv 0) rfl) pa_nil)))
    (pss_cons (ps_asg (pe_tup (pa_cons (pe_fld (pv 0) rfl) (pa_cons (pe_fld (pv 0) rfl) pa_nil))) (pg_tup rfl (pgs_cons (pg_fld (pv 2)) (pgs_cons (pg_fld (pv 2)) pgs_nil))))
    (pss_cons (ps_for po rfl (pi_U (pv 1)) (pg_name (i := 3) sc.nd rfl (Or.inl rfl)) (pss_one (ps_expr (u_meth m_Desk_make tk hr (by first | decide | omega) (pv 2) (pa_cons (pv 3) pa_nil)))))
    (pss_one (ps_asg (pe_tup (pa_cons (pe_fld (pv 2) rfl) (pa_cons (pe_fld (pv 2) rfl) (pa_cons (pe_fld (pv 2) rfl) pa_nil)))) (pg_tup rfl (pgs_cons (pg_fld (pv 0)) (pgs_cons (pg_fld (pv 0)) (pgs_cons (pg_fld (pv 0)) pgs_nil))))))))), ?_⟩
  try simp only [show (cx P w K mg base N_Desk_change_all "Desk.change_all" s_Desk_change_all f cdv A outer s H E).K = K from rfl, show (cx P w K mg base N_Desk_change_all "Desk.change_all" s_Desk_change_all f cdv A outer s H E).prog = P from rfl, show (cx P w K mg base N_Desk_change_all "Desk.change_all" s_Desk_change_all f cdv A outer s H E).w = w from rfl]
  clear tk po sc
  · rintro fs ds r fs' ⟨⟨st, past, fut, bl⟩, xs, d2, rfl, rfl, hc, h1⟩
    dsimp only at hc h1
    simp only [startM, List.map_cons, List.map_nil, List.length_cons, List.length_nil, Nat.reduceAdd, Nat.reduceSub, List.reduceReplicate, List.cons_append, List.nil_append]
    have ef : ∀ (ρ : List Sl) (i : Nat) (d : Dk) (f : Str) (x : D), ρ[i]? = some (Sl.ow (.ins cD (d.fs cS))) → NoAttr K cD f → (d.fs cS).lookup f = some x → EV K (tFld K (tVar i) f) ρ (.st x) := fun ρ i d f x h n l => ev_fld (ev_ownI h) .li c0 n l
    refine sv_seq (sv_setI (ev_make (av_cons (ef _ 0 ⟨st, past, fut, bl⟩ _ _ rfl n1 rfl) av_nil) (.cons .st .nil) ⟨st, rfl, rfl, rfl, rfl⟩) (Nat.le_of_ble_eq_true rfl) (by decide) (thn_nx (sv_seq ?_)))
    dsimp only [List.set]
    refine sv_tupE (ee_of (ev_tup (av_cons (ef _ 0 ⟨st, past, fut, bl⟩ _ _ rfl n2 rfl) (av_cons (ef _ 0 ⟨st, past, fut, bl⟩ _ _ rfl n3 rfl) av_nil)) (.cons .st (.cons .st .nil)) (Nat.le_of_ble_eq_true rfl)) .st) (by rfl) (ge_fld rfl c0 n2 (Nat.le_of_ble_eq_true rfl) (ge_fld rfl c0 n3 (Nat.le_of_ble_eq_true rfl) ge_nil)) (thn_nx (sv_seq ?_))
    dsimp only [List.set]
    refine sv_forUL (fun i ρ => ∃ (d : Dk) (s3 : Sl), ρ = [.ow (.ins cD (Dk.fs cS ⟨st, past, fut, bl⟩)), .im (.lst xs), .ow (.ins cD (d.fs cS)), s3] ∧ Chn cS RM d (xs.drop i) r d2) (by walk_at "dv") .st ⟨⟨st, past, fut, .tup []⟩, _, rfl, hc⟩ ?_ ?_
    · rintro i d ρ1 hi ⟨d1, s3, rfl, hc⟩
      refine ⟨_, g1_name, ?_⟩
      dsimp only [List.set]
      have hlt : i < xs.length := (List.getElem?_eq_some_iff.mp hi).1
      have e : xs.drop i = d :: xs.drop (i + 1) := by
        rw [List.drop_eq_getElem_cons hlt]
        rw [List.getElem?_eq_getElem hlt] at hi
        cases hi
        rfl
      rw [e] at hc
      generalize hys : xs.drop (i + 1) = ys at hc
      cases hc with
      | step hR hc => exact sv_drop (ee_methO rfl rfl (av_cons (by walk_at "dv") av_nil) (.cons .st .nil) hR) ⟨_, _, rfl, by rw [hys]; exact hc⟩
      | stop hR =>
        rcases h1 with ⟨z, _⟩ | ⟨_, rfl⟩
        · cases z
        · exact sv_dropX (xx_methO rfl rfl (av_cons (by walk_at "dv") av_nil) (.cons .st .nil) hR) ⟨rfl, rfl⟩
    · rintro ρ1 ⟨d1, s3, rfl, hc⟩
      rw [List.drop_length] at hc
      generalize hnil : ([] : List D) = ys at hc
      cases hc with
      | step => cases hnil
      | stop => cases hnil
      | nil =>
        rcases h1 with ⟨_, rfl⟩ | ⟨⟨C, fx, z⟩, _⟩
        · refine thn_nx ?_
          refine sv_tupE (ee_of (ev_tup (av_cons (ef _ 2 d2 _ _ rfl n1 rfl) (av_cons (ef _ 2 d2 _ _ rfl n2 rfl) (av_cons (ef _ 2 d2 _ _ rfl n3 rfl) av_nil))) (.cons .st (.cons .st (.cons .st .nil))) (Nat.le_of_ble_eq_true rfl)) .st) (by rfl) (ge_fld rfl c0 n1 (Nat.le_of_ble_eq_true rfl) (ge_fld rfl c0 n2 (Nat.le_of_ble_eq_true rfl) (ge_fld rfl c0 n3 (Nat.le_of_ble_eq_true rfl) ge_nil))) ?_
          exact ⟨rfl, rfl⟩
        · cases z
  · rintro fs ds r fs' ⟨d, xs, d2, rfl, rfl, hc, h1⟩
    rfl
end
end DL

set_option maxRecDepth 100000
set_option maxHeartbeats 1000000
namespace DL
open PySem L2
local macro_rules | `(tactic| walk_at "ds") => `(tactic| first | with_reducible assumption | exact eqok_tupD _ | exact eqok_kss _ | exact eqok3 | with_unfolding_all exact Eq.refl _ | exact Nat.le_of_ble_eq_true (Eq.refl true) | omega | decide | exact cdivW (by omega))
local macro_rules | `(tactic| walk_at "dv") => `(tactic| first
  | ((with_reducible show EV _ (tVar _) _ _); first | exact ev_var (by with_unfolding_all exact Eq.refl _) | exact ev_own (by with_unfolding_all exact Eq.refl _) | exact ev_ownI (by with_unfolding_all exact Eq.refl _))
  | ((with_reducible show EV _ (tC _) _ _); with_reducible first | exact ev_int | exact ev_str | exact ev_bl | exact ev_non)
  | ((with_reducible show EV _ (tOp _ _ _) _ _); exact ev_op (by walk_at "dv") (by walk_at "dv") (by walk_at "do"))
  | ((with_reducible show EV _ (tUn _ _) _ _); exact ev_un (by walk_at "dv") (by with_reducible exact neg_int))
  | ((with_reducible show EV _ (tChain _ _ _ _ _) _ _); exact ev_chain (by walk_at "dv") (by walk_at "dv") (by walk_at "do") (fun _ => by walk_at "dv") (fun _ => by walk_at "do"))
  | ((with_reducible show EV _ (tCB _ _) _ _); exact ev_cb (by walk_at "dv") (by walk_at "dc"))
  | ((with_reducible show EV _ (tAndV _ _) _ _); exact ev_andV (by walk_at "dv") (fun _ => by walk_at "dv"))
  | ((with_reducible show EV _ (tOrV _ _) _ _); exact ev_orV (by walk_at "dv") (fun _ => by walk_at "dv"))
  | ((with_reducible show EV _ (tNotV _) _ _); exact ev_notV (by walk_at "dv"))
  | ((with_reducible show EV _ (tIf _ _ _) _ _); exact ev_if (by walk_at "dv") (fun _ => by walk_at "dv") (fun _ => by walk_at "dv"))
  | ((with_reducible show EV _ (tSl _ _ _ _) _ _); exact ev_sl (by walk_at "dv") (by walk_at "dv") (by walk_at "dv") (by walk_at "dl"))
  | ((with_reducible show EV _ (tTup _) _ _); exact ev_tup (by walk_at "dv") (by walk_at "dt") (by walk_at "ds"))
  | ((with_reducible show EV _ (tLst _) _ _); exact ev_lst (by walk_at "dv") (by walk_at "dt") (by walk_at "ds"))
  | ((with_reducible show AV _ tNil _ _); exact av_nil)
  | ((with_reducible show AV _ (tCons _ _) _ _); exact av_cons (by walk_at "dv") (by walk_at "dv"))
  | ((with_reducible show OV _ tNoPart _ _); exact ov_none)
  | ((with_reducible show OV _ (tPart _) _ _); exact ov_some (by walk_at "dv"))
  | ((with_reducible show TV _ (tTest _) _ _); exact tv_test (by walk_at "dv"))
  | ((with_reducible show TV _ (tB _) _ _); exact tv_B (by walk_at "dv"))
  | ((with_reducible show TV _ (tNot _) _ _); exact tv_not (by walk_at "dv"))
  | ((with_reducible show TV _ (tAnd _ _) _ _); exact tv_and (by walk_at "dv") (fun _ => by walk_at "dv"))
  | ((with_reducible show TV _ (tOr _ _) _ _); exact tv_or (by walk_at "dv") (fun _ => by walk_at "dv"))
  | ((fail_if_success (with_reducible first | show TV _ (tTest _) _ _ | show TV _ (tB _) _ _ | show TV _ (tNot _) _ _ | show TV _ (tAnd _ _) _ _ | show TV _ (tOr _ _) _ _)); (with_reducible show TV _ _ _ _); exact tv_truB (by walk_at "dv"))
  | ((with_reducible show EV _ (tCallS _ _ _) _ _); exact ev_call (by walk_at "dv") (by walk_at "dt") (by walk_at "dr"))
  | ((with_reducible show EV _ (tFld _ _ _) _ _); exact ev_fld (by walk_at "dv") (by first | exact .st | exact .li | exact .fi) (by with_reducible assumption) (by with_reducible assumption) (by with_unfolding_all exact Eq.refl _))
  | ((with_reducible show EV _ (tProp _ _ _ _ _) _ _); exact ev_prop (by walk_at "dv") (by walk_at "dt") (by walk_at "dr"))
  | ((with_reducible show EV _ (tMethW _ _ _ _ _ _) _ _); exact ev_meth (by walk_at "dv") (by with_unfolding_all exact Eq.refl _) (by walk_at "dv") (by walk_at "dt") (by walk_at "dr")))
local macro_rules | `(tactic| walk_at "do") => `(tactic| with_reducible first
  | exact add_int | exact sub_int | exact lt_int | exact le_int | exact gt_int | exact ge_int
  | exact ix_lst .st (by assumption) | exact ix_lst .fr (by assumption) | exact ix_lst .ls (by assumption) | exact ix_tup (by assumption)
  | exact ix_tup (by with_unfolding_all exact Eq.refl _) | exact ix_lst .st (by with_unfolding_all exact Eq.refl _) | exact ix_lst .ls (by with_unfolding_all exact Eq.refl _) | exact ix_lst .fr (by with_unfolding_all exact Eq.refl _)
  | exact eq_int | exact ne_int | exact eq_strV | exact eq_str (by walk_at "ds") (by walk_at "ds") | exact ne_str (by walk_at "ds") (by walk_at "ds")
  | exact eq_dat .st .st (by walk_at "ds") (by walk_at "ds") | exact ne_dat .st .st (by walk_at "ds") (by walk_at "ds")
  | exact notin_lst .st .ls (by walk_at "ds") (by walk_at "ds") | exact in_lst .st .st (by walk_at "ds") (by walk_at "ds") | exact in_lst .st .ls (by walk_at "ds") (by walk_at "ds")
  | exact in_tup .st (by walk_at "ds") (by walk_at "ds")
  | exact mul_int (by walk_at "ds") | exact mod_int (by walk_at "ds") | exact fdiv_int (by walk_at "ds"))
local macro_rules | `(tactic| walk_at "dc") => `(tactic| with_reducible first
  | exact len_tup | exact len_lst .st | exact len_lst .ls | exact len_lst .fr
  | exact abs_int | exact max2_int | exact min2_int | exact min3_int | exact int_int | exact int_bl
  | exact list_tup | exact list_lst .st | exact list_lst .ls | exact list_lst .fr
  | exact all_bls .st | exact all_bls .ls | exact all_bls .fr)
local macro_rules | `(tactic| walk_at "dt") => `(tactic| first
  | ((with_reducible show Stb (Vd.st _) _); exact Stb.st)
  | ((with_reducible show Stb (Vd.fr _) _); exact Stb.fr)
  | ((with_reducible show Stb (Vd.fi _ _) _); exact Stb.fi)
  | ((with_reducible show Stbs [] _); with_reducible exact Stbs.nil)
  | ((with_reducible show Stbs (_ :: _) _); exact Stbs.cons (by walk_at "dt") (by walk_at "dt")))
local macro_rules | `(tactic| walk_at "dg") => `(tactic| first
  | ((with_reducible show GV _ gNil _ _ _); with_reducible exact gv_nil)
  | ((with_reducible show GV _ (gCons (gName _) _) (_ :: _) _ _); exact gv_cons (by walk_at "dg")))
local macro_rules | `(tactic| walk_at "sv") => `(tactic| first
  | with_reducible refine sv_seq ?_
  | with_reducible refine sv_next ?_
  | ((with_reducible show SV _ _ (tIfS _ _ _) _ _); refine sv_if (by walk_at "dv") ?_ ?_)
  | ((with_reducible show SV _ _ (tRet _) _ _); refine sv_retV (by walk_at "dv") (by walk_at "dt") ?_)
  | ((with_reducible show SV _ _ (tAsg _ (gTup _ _ _)) _ _); refine sv_tup (ee_of (by walk_at "dv") (by walk_at "dt")) (by rfl) (by walk_at "dg") ?_)
  | ((with_reducible show SV _ _ (tAsg _ (gName _)) _ _); refine sv_setV (by walk_at "dv") (by walk_at "dt") ?_)
  | ((with_reducible show SV _ _ (tPar _ _ _) _ _); refine sv_par (by walk_at "dv") (by walk_at "dt") ?_)
  | ((with_reducible show SV _ _ (tRaise0 _ _) _ _); refine sv_raise0 ?_)
  | ((with_reducible show SV _ _ (tRaise1 _ _ _ _) _ _); refine sv_raise1 (by walk_at "dv") (by walk_at "dt") ?_)
  | ((with_reducible refine thn_nx ?_); try dsimp only [List.set]))
local macro_rules | `(tactic| walk_at "sx") => `(tactic| first | (intro hx; exact absurd hx (by decide)) | (intro hx; exfalso; simp at hx))
local macro_rules | `(tactic| walk_at "bo") => `(tactic| (simp only [Bool.or_eq_true, Bool.not_eq_true', Bool.and_eq_false_iff, Bool.or_eq_false_iff, Bool.not_eq_false', decide_eq_false_iff_not, decide_eq_true_eq, Bool.and_eq_true, Bool.eq_false_iff, ne_eq, Bool.true_and, Bool.and_true] at * <;> omega))
section
variable {P : Program} {w : World} {K : Frag} {mg : Str → Option Value} {base : Heap} {cS cI cU cT cM cD cNU cNR cNB : Addr}
def R_can (cS : Addr) (fs : List (Str × D)) (ds : List D) (r : Res) (fs' : List (Str × D)) : Prop := ∃ (d : Dk), fs = d.fs cS ∧ d.fut.length ≤ 1000 ∧ d.past.length ≤ 1000 ∧
  ((ds = [.str "undo"] ∧ ((d.past = [] ∧ r = .ret (.bl false) ∧ fs' = d.fs cS) ∨ ∃ ps s', d.past = ps ++ [s'] ∧ r = .ret (.bl true) ∧ fs' = Dk.fs cS ⟨s', ps, d.st :: d.fut, d.bl⟩)) ∨
   (ds = [.str "redo"] ∧ ((d.fut = [] ∧ r = .ret (.bl false) ∧ fs' = d.fs cS) ∨ ∃ s' fu, d.fut = s' :: fu ∧ r = .ret (.bl true) ∧ fs' = Dk.fs cS ⟨s', d.past ++ [d.st], fu, d.bl⟩)))
theorem f_can {f : Addr} {fd : FuncData} (F : Fun K "_law_can" "_law_can" s__law_can f fd) (m_Desk_undo : MthN P w K mg base 1 cD "undo" (spM K cD (R_undo cS cNU))) (m_Desk_redo : MthN P w K mg base 1 cD "redo" (spM K cD (R_redo cS cNR))) (e_NothingToUndo : Ex0 K mg "NothingToUndo" cNU) (e_NothingToRedo : Ex0 K mg "NothingToRedo" cNR) (xu : ExmU K cNU cNR) :
    FnOk P w K mg base (L2.CX P w) 2 f fd ["_law_desk", "_law_word"] (spM K cD (R_can cS)) := by
  refine fnM F sc__law_can ?_ fun cdv A outer s H E hr => ?_
  rotate_left
  have tk : Takes (cx P w K mg base N__law_can "_law_can" s__law_can f cdv A outer s H E) (wE E) := takes_of rfl rfl rfl rfl
  have po : PassesOwn (model (cx P w K mg base N__law_can "_law_can" s__law_can f cdv A outer s H E).prog (cx P w K mg base N__law_can "_law_can" s__law_can f cdv A outer s H E).w) (cx P w K mg base N__law_can "_law_can" s__law_can f cdv A outer s H E).A (cx P w K mg base N__law_can "_law_can" s__law_can f cdv A outer s H E).env (cx P w K mg base N__law_can "_law_can" s__law_can f cdv A outer s H E).xe := passes_of (X := cx P w K mg base N__law_can "_law_can" s__law_can f cdv A outer s H E) rfl
  have sc := sc__law_can
  refine ⟨_, (pss_cons (u_try rfl rfl tk (fun W2 pn xe tk2 po2 => (pss_one (ps_if (pt_cmpR (op_eqDK K hr.units) (pv 1) pe_str (nomark _)) (pss_one (ps_expr (u_meth0 m_Desk_undo tk2 hr (by first | decide | omega) (pv 0)))) (pss_one (ps_expr (u_meth0 m_Desk_redo tk2 hr (by first | decide | omega) (pv 0))))))) (HdN.only e_NothingToUndo.names (fun a oe cls d pn hz hf => (pss_one (ps_ret pe_bl))) (HdN.only e_NothingToRedo.names (fun a oe cls d pn hz hf => (pss_one (ps_ret pe_bl))) HdN.nil)))
    (pss_one (ps_ret pe_bl))), ?_⟩
  try simp only [show (cx P w K mg base N__law_can "_law_can" s__law_can f cdv A outer s H E).K = K from rfl, show (cx P w K mg base N__law_can "_law_can" s__law_can f cdv A outer s H E).prog = P from rfl, show (cx P w K mg base N__law_can "_law_can" s__law_can f cdv A outer s H E).w = w from rfl]
  clear tk po sc
  · rintro fs ds r fs' ⟨d, rfl, hl1, hl2, ⟨rfl, h⟩ | ⟨rfl, h⟩⟩
    · rcases h with ⟨hp, rfl, rfl⟩ | ⟨ps, s', hp, rfl, rfl⟩
      · refine sv_seq (sv_try fun W => ?_)
        refine sv_if (by walk_at "dv") ?_ ?_
        rotate_left
        · walk_at "sx"
        intro _
        refine sv_dropX (xx_methO rfl rfl av_nil .nil ⟨d, rfl, rfl, hl1, .inl ⟨hp, rfl, rfl⟩⟩) ?_
        refine ⟨true, xu.uu, fun _ a od => ?_, (fun z => nomatch z)⟩
        exact sv_retV ev_bl .st ⟨rfl, rfl⟩
      · refine sv_seq (sv_try fun W => ?_)
        refine sv_if (by walk_at "dv") ?_ ?_
        rotate_left
        · walk_at "sx"
        intro _
        refine sv_drop (ee_methO rfl rfl av_nil .nil ⟨d, rfl, rfl, hl1, .inr ⟨ps, s', hp, rfl, rfl⟩⟩) (thn_nx ?_)
        exact sv_retV ev_bl .st ⟨rfl, rfl⟩
    · rcases h with ⟨hp, rfl, rfl⟩ | ⟨ps, s', hp, rfl, rfl⟩
      · refine sv_seq (sv_try fun W => ?_)
        refine sv_if (by walk_at "dv") ?_ ?_
        · walk_at "sx"
        intro _
        refine sv_dropX (xx_methO rfl rfl av_nil .nil ⟨d, rfl, rfl, hl2, .inl ⟨hp, rfl, rfl⟩⟩) ?_
        refine ⟨false, xu.ru, (fun z => nomatch z), fun _ => ⟨true, xu.rr, fun _ a od => ?_, (fun z => nomatch z)⟩⟩
        exact sv_retV ev_bl .st ⟨rfl, rfl⟩
      · refine sv_seq (sv_try fun W => ?_)
        refine sv_if (by walk_at "dv") ?_ ?_
        · walk_at "sx"
        intro _
        refine sv_drop (ee_methO rfl rfl av_nil .nil ⟨d, rfl, rfl, hl2, .inr ⟨ps, s', hp, rfl, rfl⟩⟩) (thn_nx ?_)
        exact sv_retV ev_bl .st ⟨rfl, rfl⟩
  · rintro fs ds r fs' ⟨d, rfl, hl1, hl2, ⟨rfl, h⟩ | ⟨rfl, h⟩⟩ <;> rfl
/-- all skies behind and ahead of the present one -/
def waysD (d : Dk) : D := .tup [.int d.past.length, .lst ((d.past.reverse ++ d.fut).map Sk.d)]
def R_ways (cS : Addr) (fs : List (Str × D)) (ds : List D) (r : Res) (fs' : List (Str × D)) : Prop := ∃ d : Dk, fs = d.fs cS ∧ ds = [] ∧ d.past.length ≤ 39 ∧ d.fut.length ≤ 39 ∧ r = .ret (waysD d) ∧ fs' = d.fs cS
/-- a desk at a place of its row of skies -/
theorem take_len {α : Type} {l : List α} {n : Nat} (h : n ≤ l.length) : (l.take n).length = n := by rw [List.length_take]; omega
theorem f_ways {f : Addr} {fd : FuncData} (F : Fun K "_law_ways" "_law_ways" s__law_ways f fd) (g_len : mg "len" = none) (g_range : mg "range" = none) (m_Desk_undo : MthN P w K mg base 1 cD "undo" (spM K cD (R_undo cS cNU))) (m_Desk_redo : MthN P w K mg base 1 cD "redo" (spM K cD (R_redo cS cNR)))
    (h__law_can : DefN P w K mg base 2 "_law_can" (spM K cD (R_can cS))) (h__law_told : DefN P w K mg base 3 "_law_told" (spM K cD (R_told cS))) : FnOk P w K mg base (L2.CX P w) 4 f fd ["_law_desk"] (spM K cD (R_ways cS)) := by
  refine fnM F sc__law_ways ?_ fun cdv A outer s H E hr => ?_
  rotate_left
  have tk : Takes (cx P w K mg base N__law_ways "_law_ways" s__law_ways f cdv A outer s H E) (wE E) := takes_of rfl rfl rfl rfl
  have po : PassesOwn (model (cx P w K mg base N__law_ways "_law_ways" s__law_ways f cdv A outer s H E).prog (cx P w K mg base N__law_ways "_law_ways" s__law_ways f cdv A outer s H E).w) (cx P w K mg base N__law_ways "_law_ways" s__law_ways f cdv A outer s H E).A (cx P w K mg base N__law_ways "_law_ways" s__law_ways f cdv A outer s H E).env (cx P w K mg base N__law_ways "_law_ways" s__law_ways f cdv A outer s H E).xe := passes_of (X := cx P w K mg base N__law_ways "_law_ways" s__law_ways f cdv A outer s H E) rfl
  have sc := sc__law_ways
  refine ⟨_, (pss_cons (ps_set (i := 1) sc.nd rfl (Or.inl rfl) (pe_lst pa_nil))
    (pss_cons (ps_for po rfl (pi_range1 (by rfl) g_range (pa_cons pe_int pa_nil)) (pg_name (i := 2) sc.nd rfl (Or.inl rfl)) (pss_cons (ps_if (pt_not (pt_truth (u_call h__law_can tk hr (by first | decide | omega) rfl (pa_cons (pv 0) (pa_cons pe_str pa_nil))) (by intro _; rfl))) (pss_one ps_break) pss_nil)
    (pss_one (ps_expr (pe_bm PySem.F.plainAttrs_list PySem.F.slot_list_append PySem.F.type_list_append mt_append (pv 1) (pa_cons (u_call h__law_told tk hr (by first | decide | omega) rfl (pa_cons (pv 0) pa_nil)) pa_nil))))))
    (pss_cons (ps_set (i := 3) sc.nd rfl (Or.inl rfl) (pe_callB u_len (by rfl) g_len (by decide +kernel) (pa_cons (pv 1) pa_nil)))
    (pss_cons (ps_for po rfl (pi_range1 (by rfl) g_range (pa_cons (pv 3) pa_nil)) (pg_name (i := 2) sc.nd rfl (Or.inl rfl)) (pss_one (ps_expr (u_meth0 m_Desk_redo tk hr (by first | decide | omega) (pv 0)))))
    (pss_cons (ps_for po rfl (pi_range1 (by rfl) g_range (pa_cons pe_int pa_nil)) (pg_name (i := 2) sc.nd rfl (Or.inl rfl)) (pss_cons (ps_if (pt_not (pt_truth (u_call h__law_can tk hr (by first | decide | omega) rfl (pa_cons (pv 0) (pa_cons pe_str pa_nil))) (by intro _; rfl))) (pss_one ps_break) pss_nil)
    (pss_one (ps_expr (pe_bm PySem.F.plainAttrs_list PySem.F.slot_list_append PySem.F.type_list_append mt_append (pv 1) (pa_cons (u_call h__law_told tk hr (by first | decide | omega) rfl (pa_cons (pv 0) pa_nil)) pa_nil))))))
    (pss_cons (ps_for po rfl (pi_range1 (by rfl) g_range (pa_cons (pe_op op_sub (pe_callB u_len (by rfl) g_len (by decide +kernel) (pa_cons (pv 1) pa_nil)) (pv 3)) pa_nil)) (pg_name (i := 2) sc.nd rfl (Or.inl rfl)) (pss_one (ps_expr (u_meth0 m_Desk_undo tk hr (by first | decide | omega) (pv 0)))))
    (pss_one (ps_ret (pe_tup (pa_cons (pv 3) (pa_cons (pv 1) pa_nil))))))))))), ?_⟩
  try simp only [show (cx P w K mg base N__law_ways "_law_ways" s__law_ways f cdv A outer s H E).K = K from rfl, show (cx P w K mg base N__law_ways "_law_ways" s__law_ways f cdv A outer s H E).prog = P from rfl, show (cx P w K mg base N__law_ways "_law_ways" s__law_ways f cdv A outer s H E).w = w from rfl]
  clear tk po sc
  · rintro fs ds r fs' ⟨⟨st, past, fut, bl⟩, rfl, rfl, hp, hf, rfl, rfl⟩
    dsimp only at hp hf
    simp only [startM, List.map_cons, List.map_nil, List.length_cons, List.length_nil, Nat.reduceAdd, Nat.reduceSub, List.reduceReplicate, List.cons_append, List.nil_append]
    have sl : sizeLine = 16777216 := sizeLine_eq
    refine sv_seq (sv_setF (by walk_at "dv") (Nat.le_of_ble_eq_true rfl) (thn_nx (sv_seq ?_)))
    dsimp only [List.set]
    have tell : ∀ (d : Dk) (ρ : List Sl), ρ[0]? = some (Sl.ow (.ins cD (d.fs cS))) → EE K (tCallS (spM K cD (R_told cS)) (WE (wE E)) (tCons (tVar 0) tNil)) ρ d.st.d (ρ.set 0 (Sl.ow (.ins cD (d.fs cS)))) := fun d ρ h => ee_callO h av_nil .nil ⟨d, rfl, rfl, rfl, rfl⟩
    -- back to the first
    refine sv_forR1 (fun i ρ => ∃ (d : Dk) (s2 s3 : Sl), ρ = [.ow (.ins cD (d.fs cS)), .ow (.lst ((past.reverse.take i).map Sk.d)), s2, s3] ∧ d.bl = bl ∧ d.past = past.take (past.length - i) ∧ i ≤ past.length ∧ past ++ [st] ++ fut = d.past ++ [d.st] ++ d.fut) ev_int (by decide) ⟨⟨st, past, fut, bl⟩, _, _, rfl, rfl, by simp, Nat.zero_le _, rfl⟩ ?_ ?_
    · rintro i ρ1 hi ⟨⟨st', past', fut', bl'⟩, s2, s3, rfl, hb, hpa, hle, hall⟩
      dsimp only at hb hpa hall
      subst hb
      refine ⟨_, g1_name, ?_⟩
      dsimp only [List.set]
      have hlen := congrArg List.length hall
      simp only [List.length_append, List.length_cons, List.length_nil] at hlen
      have hpl : past'.length = past.length - i := by rw [hpa, take_len (by omega)]
      rcases List.eq_nil_or_concat past' with rfl | ⟨ps, s', rfl⟩
      · -- no more
        refine sv_seq (sv_ifE (te_not (te_truB (ee_callO rfl (av_cons ev_str av_nil) (.cons .st .nil) ⟨⟨st', [], fut', bl'⟩, rfl, by show fut'.length ≤ 1000; omega, by show 0 ≤ 1000; decide, .inl ⟨rfl, .inl ⟨rfl, rfl, rfl⟩⟩⟩))) ?_ (fun z => nomatch z))
        intro _
        rw [List.length_nil] at hpl
        have ei : i = past.length := by omega
        subst ei
        refine sv_break (thn_nx (sv_seq ?_))
        dsimp only [List.set]
        have er : past.reverse.take past.length = past.reverse := by rw [← List.length_reverse, List.take_length]
        rw [er]
        refine sv_setV (by walk_at "dv") .st (thn_nx (sv_seq ?_))
        dsimp only [List.set]
        have hml : (past.reverse.map Sk.d).length = past.length := by rw [List.length_map, List.length_reverse]
        -- up to where it stood
        refine sv_forR1 (fun j ρ => ∃ (d : Dk) (s2 : Sl), ρ = [.ow (.ins cD (d.fs cS)), .ow (.lst (past.reverse.map Sk.d)), s2, .im (.int (((past.reverse.map Sk.d).length : Nat) : Int))] ∧ d.bl = bl' ∧ d.past.length = j ∧ past ++ [st] ++ fut = d.past ++ [d.st] ++ d.fut) (by walk_at "dv") ⟨by rw [hml]; omega, by rw [hml]; omega⟩ ⟨⟨st', [], fut', bl'⟩, _, rfl, rfl, rfl, hall⟩ ?_ ?_
        · rintro j ρ1 hj ⟨⟨st2, past2, fut2, bl2⟩, s2', rfl, hb, hj2, hall2⟩
          dsimp only at hb hj2 hall2
          subst hb
          rw [hml] at hj
          refine ⟨_, g1_name, ?_⟩
          dsimp only [List.set]
          have hlen2 := congrArg List.length hall2
          simp only [List.length_append, List.length_cons, List.length_nil] at hlen2
          cases fut2 with
          | nil => rw [List.length_nil] at hlen2; omega
          | cons x fu =>
            refine sv_drop (ee_methO rfl rfl av_nil .nil ⟨⟨st2, past2, x :: fu, bl2⟩, rfl, rfl, by show past2.length ≤ 1000; omega, .inr ⟨x, fu, rfl, rfl, rfl⟩⟩) ?_
            refine ⟨⟨x, past2 ++ [st2], fu, bl2⟩, _, rfl, rfl, by show (past2 ++ [st2]).length = j + 1; rw [List.length_append, hj2]; rfl, ?_⟩
            rw [hall2]
            simp
        · rintro ρ1 ⟨⟨st2, past2, fut2, bl2⟩, s2', rfl, hb, hj2, hall2⟩
          dsimp only at hb hj2 hall2
          subst hb
          rw [hml, Int.toNat_natCast] at hj2
          have e1 : past2 = past := by
            have := congrArg (List.take past.length) hall2
            rw [List.append_assoc, List.take_left, List.append_assoc, ← hj2, List.take_left] at this
            exact this.symm
          subst e1
          have e2 : st2 = st ∧ fut2 = fut := by
            rw [List.append_assoc, List.append_assoc] at hall2
            have := List.append_cancel_left hall2
            simp only [List.cons_append, List.nil_append, List.cons.injEq] at this
            exact ⟨this.1.symm, this.2.symm⟩
          obtain ⟨rfl, rfl⟩ := e2
          refine thn_nx (sv_seq ?_)
          -- ahead
          refine sv_forR1 (fun j ρ => ∃ (d : Dk) (s2 : Sl), ρ = [.ow (.ins cD (d.fs cS)), .ow (.lst ((past2.reverse ++ fut2.take j).map Sk.d)), s2, .im (.int (((past2.reverse.map Sk.d).length : Nat) : Int))] ∧ d.bl = bl2 ∧ d.fut = fut2.drop j ∧ j ≤ fut2.length ∧ d.past ++ [d.st] ++ d.fut = past2 ++ [st2] ++ fut2) ev_int (by decide) ⟨⟨st2, past2, fut2, bl2⟩, _, by simp; rfl, rfl, by simp, Nat.zero_le _, rfl⟩ ?_ ?_
          · rintro j ρ1 hj ⟨⟨st3, past3, fut3, bl3⟩, s3', rfl, hb, hfu, hle3, hall3⟩
            dsimp only at hb hfu hall3
            subst hb
            refine ⟨_, g1_name, ?_⟩
            dsimp only [List.set]
            have hlen3 := congrArg List.length hall3
            simp only [List.length_append, List.length_cons, List.length_nil] at hlen3
            cases fut3 with
            | nil =>
              refine sv_seq (sv_ifE (te_not (te_truB (ee_callO rfl (av_cons ev_str av_nil) (.cons .st .nil) ⟨⟨st3, past3, [], bl3⟩, rfl, by show 0 ≤ 1000; decide, by show past3.length ≤ 1000; omega, .inr ⟨rfl, .inl ⟨rfl, rfl, rfl⟩⟩⟩))) ?_ (fun z => nomatch z))
              intro _
              have ej : j = fut2.length := by
                have := congrArg List.length hfu
                rw [List.length_drop, List.length_nil] at this
                omega
              subst ej
              refine sv_break (thn_nx (sv_seq ?_))
              dsimp only [List.set]
              rw [List.take_length]
              have hm4 : ((past2.reverse ++ fut2).map Sk.d).length = past2.length + fut2.length := by rw [List.length_map, List.length_append, List.length_reverse]
              have en : ((((past2.reverse ++ fut2).map Sk.d).length : Nat) : Int) - (((past2.reverse.map Sk.d).length : Nat) : Int) = fut2.length := by rw [hm4, List.length_map, List.length_reverse]; omega
              -- and back again
              refine sv_forR1 (n := fut2.length) (fun j ρ => ∃ (d : Dk) (s2 : Sl), ρ = [.ow (.ins cD (d.fs cS)), .ow (.lst ((past2.reverse ++ fut2).map Sk.d)), s2, .im (.int (((past2.reverse.map Sk.d).length : Nat) : Int))] ∧ d.bl = bl3 ∧ d.fut.length = j ∧ d.past ++ [d.st] ++ d.fut = past2 ++ [st2] ++ fut2) (ev_is (by walk_at "dv") (congrArg (fun z => Vd.st (.int z)) en)) ⟨by omega, by omega⟩ ⟨⟨st3, past3, [], bl3⟩, _, rfl, rfl, rfl, hall3⟩ ?_ ?_
              · rintro k ρ1 hk ⟨⟨st4, past4, fut4, bl4⟩, s4', rfl, hb, hk2, hall4⟩
                dsimp only at hb hk2 hall4
                subst hb
                refine ⟨_, g1_name, ?_⟩
                dsimp only [List.set]
                have hlen4 := congrArg List.length hall4
                simp only [List.length_append, List.length_cons, List.length_nil] at hlen4
                rcases List.eq_nil_or_concat past4 with rfl | ⟨ps, s', rfl⟩
                · rw [List.length_nil] at hlen4; omega
                · rw [List.concat_eq_append] at *
                  refine sv_drop (ee_methO rfl rfl av_nil .nil ⟨⟨st4, ps ++ [s'], fut4, bl4⟩, rfl, rfl, by show fut4.length ≤ 1000; omega, .inr ⟨ps, s', rfl, rfl, rfl⟩⟩) ?_
                  refine ⟨⟨s', ps, st4 :: fut4, bl4⟩, _, rfl, rfl, by show fut4.length + 1 = k + 1; omega, ?_⟩
                  rw [← hall4]
                  simp
              · rintro ρ1 ⟨⟨st4, past4, fut4, bl4⟩, s4', rfl, hb, hk2, hall4⟩
                dsimp only at hb hk2 hall4
                subst hb
                rw [Int.toNat_natCast] at hk2
                have hlen4 := congrArg List.length hall4
                simp only [List.length_append, List.length_cons, List.length_nil] at hlen4
                have e1 : past4 = past2 := by
                  have := congrArg (List.take past2.length) hall4
                  rw [List.append_assoc, List.append_assoc, List.take_left, show past2.length = past4.length by omega, List.take_left] at this
                  exact this
                subst e1
                have e2 : st4 = st2 ∧ fut4 = fut2 := by
                  rw [List.append_assoc, List.append_assoc] at hall4
                  have := List.append_cancel_left hall4
                  simp only [List.cons_append, List.nil_append, List.cons.injEq] at this
                  exact this
                obtain ⟨rfl, rfl⟩ := e2
                refine thn_nx (sv_freeze 1 rfl ?_)
                dsimp only [List.set]
                refine sv_retV (ev_tup (av_cons (ev_var rfl) (av_cons (ev_var rfl) av_nil)) (.cons .st (.cons .st .nil)) (Nat.le_of_ble_eq_true rfl)) .st ⟨?_, rfl⟩
                unfold waysD
                rw [List.length_map, List.length_reverse]
            | cons x fu =>
              refine sv_seq (sv_ifE (te_not (te_truB (ee_callO rfl (av_cons ev_str av_nil) (.cons .st .nil) ⟨⟨st3, past3, x :: fu, bl3⟩, rfl, by show (x :: fu).length ≤ 1000; rw [hfu, List.length_drop]; omega, by show past3.length ≤ 1000; omega, .inr ⟨rfl, .inr ⟨x, fu, rfl, rfl, rfl⟩⟩⟩))) (fun z => nomatch z) ?_)
              intro _
              refine sv_next (thn_nx ?_)
              dsimp only [List.set]
              have hjl : j < fut2.length := by
                have := congrArg List.length hfu
                rw [List.length_drop, List.length_cons] at this
                omega
              have hx : fut2[j]? = some x := by
                have := congrArg List.head? hfu
                rw [List.head?_drop] at this
                exact this.symm
              have hfu2 : fu = fut2.drop (j + 1) := by
                have := congrArg List.tail hfu
                rw [List.tail_drop] at this
                exact this
              refine sv_drop (ee_append (i := 1) rfl (tell ⟨x, past3 ++ [st3], fu, bl3⟩ _ rfl) rfl (by rw [List.length_map, List.length_append, List.length_reverse, List.length_take, sl]; omega)) ?_
              dsimp only [List.set]
              refine ⟨⟨x, past3 ++ [st3], fu, bl3⟩, .im (.int j), ?_, rfl, hfu2, hjl, ?_⟩
              · rw [take_snoc hx, ← List.append_assoc, List.map_append (l₂ := [x])]
                rfl
              · show past3 ++ [st3] ++ [x] ++ fu = _
                rw [← hall3]
                simp
          · rintro ρ1 ⟨d, s3', rfl, hb, hfu, hle3, hall3⟩
            exfalso
            have : (40 : Int).toNat = 40 := rfl
            omega
      · rw [List.concat_eq_append] at *
        refine sv_seq (sv_ifE (te_not (te_truB (ee_callO rfl (av_cons ev_str av_nil) (.cons .st .nil) ⟨⟨st', ps ++ [s'], fut', bl'⟩, rfl, by show fut'.length ≤ 1000; omega, by show (ps ++ [s']).length ≤ 1000; omega, .inl ⟨rfl, .inr ⟨ps, s', rfl, rfl, rfl⟩⟩⟩))) (fun z => nomatch z) ?_)
        intro _
        refine sv_next (thn_nx ?_)
        dsimp only [List.set]
        rw [List.length_append] at hpl
        simp only [List.length_cons, List.length_nil] at hpl
        refine sv_drop (ee_append (i := 1) rfl (tell ⟨s', ps, st' :: fut', bl'⟩ _ rfl) rfl (by rw [List.length_map, List.length_take, sl]; omega)) ?_
        dsimp only [List.set]
        have hil : i < past.length := by omega
        have hs' : past.reverse[i]? = some s' := by
          rw [List.getElem?_reverse hil]
          have h1 : (ps ++ [s'])[ps.length]? = (past.take (past.length - i))[ps.length]? := by rw [hpa]
          rw [List.getElem?_take_of_lt (by omega)] at h1
          rw [show past.length - 1 - i = ps.length by omega, ← h1]
          simp
        refine ⟨⟨s', ps, st' :: fut', bl'⟩, .im (.int i), s3, ?_, rfl, ?_, by omega, ?_⟩
        · rw [take_snoc hs', List.map_append]
          rfl
        · have h1 := congrArg (List.take ps.length) hpa
          rw [List.take_left, List.take_take] at h1
          show ps = _
          rw [h1]
          congr 1
          omega
        · rw [hall]
          simp
    · rintro ρ1 ⟨d, s2, s3, rfl, hb, hpa, hle, hall⟩
      exfalso
      have : (40 : Int).toNat = 40 := rfl
      omega
  · rintro fs ds r fs' ⟨d, rfl, rfl, _⟩
    rfl
end
end DL

set_option maxRecDepth 100000
set_option maxHeartbeats 1000000
namespace DL
open PySem L2
local macro_rules | `(tactic| walk_at "ds") => `(tactic| first | with_reducible assumption | exact eqok_tupD _ | exact eqok_kss _ | exact eqok3 | with_unfolding_all exact Eq.refl _ | exact Nat.le_of_ble_eq_true (Eq.refl true) | omega | decide | exact cdivW (by omega))
local macro_rules | `(tactic| walk_at "dv") => `(tactic| first
  | ((with_reducible show EV _ (tVar _) _ _); first | exact ev_var (by with_unfolding_all exact Eq.refl _) | exact ev_own (by with_unfolding_all exact Eq.refl _) | exact ev_ownI (by with_unfolding_all exact Eq.refl _))
  | ((with_reducible show EV _ (tC _) _ _); with_reducible first | exact ev_int | exact ev_str | exact ev_bl | exact ev_non)
  | ((with_reducible show EV _ (tOp _ _ _) _ _); exact ev_op (by walk_at "dv") (by walk_at "dv") (by walk_at "do"))
  | ((with_reducible show EV _ (tUn _ _) _ _); exact ev_un (by walk_at "dv") (by with_reducible exact neg_int))
  | ((with_reducible show EV _ (tChain _ _ _ _ _) _ _); exact ev_chain (by walk_at "dv") (by walk_at "dv") (by walk_at "do") (fun _ => by walk_at "dv") (fun _ => by walk_at "do"))
  | ((with_reducible show EV _ (tCB _ _) _ _); exact ev_cb (by walk_at "dv") (by walk_at "dc"))
  | ((with_reducible show EV _ (tAndV _ _) _ _); exact ev_andV (by walk_at "dv") (fun _ => by walk_at "dv"))
  | ((with_reducible show EV _ (tOrV _ _) _ _); exact ev_orV (by walk_at "dv") (fun _ => by walk_at "dv"))
  | ((with_reducible show EV _ (tNotV _) _ _); exact ev_notV (by walk_at "dv"))
  | ((with_reducible show EV _ (tIf _ _ _) _ _); exact ev_if (by walk_at "dv") (fun _ => by walk_at "dv") (fun _ => by walk_at "dv"))
  | ((with_reducible show EV _ (tSl _ _ _ _) _ _); exact ev_sl (by walk_at "dv") (by walk_at "dv") (by walk_at "dv") (by walk_at "dl"))
  | ((with_reducible show EV _ (tTup _) _ _); exact ev_tup (by walk_at "dv") (by walk_at "dt") (by walk_at "ds"))
  | ((with_reducible show EV _ (tLst _) _ _); exact ev_lst (by walk_at "dv") (by walk_at "dt") (by walk_at "ds"))
  | ((with_reducible show AV _ tNil _ _); exact av_nil)
  | ((with_reducible show AV _ (tCons _ _) _ _); exact av_cons (by walk_at "dv") (by walk_at "dv"))
  | ((with_reducible show OV _ tNoPart _ _); exact ov_none)
  | ((with_reducible show OV _ (tPart _) _ _); exact ov_some (by walk_at "dv"))
  | ((with_reducible show TV _ (tTest _) _ _); exact tv_test (by walk_at "dv"))
  | ((with_reducible show TV _ (tB _) _ _); exact tv_B (by walk_at "dv"))
  | ((with_reducible show TV _ (tNot _) _ _); exact tv_not (by walk_at "dv"))
  | ((with_reducible show TV _ (tAnd _ _) _ _); exact tv_and (by walk_at "dv") (fun _ => by walk_at "dv"))
  | ((with_reducible show TV _ (tOr _ _) _ _); exact tv_or (by walk_at "dv") (fun _ => by walk_at "dv"))
  | ((fail_if_success (with_reducible first | show TV _ (tTest _) _ _ | show TV _ (tB _) _ _ | show TV _ (tNot _) _ _ | show TV _ (tAnd _ _) _ _ | show TV _ (tOr _ _) _ _)); (with_reducible show TV _ _ _ _); exact tv_truB (by walk_at "dv"))
  | ((with_reducible show EV _ (tCallS _ _ _) _ _); exact ev_call (by walk_at "dv") (by walk_at "dt") (by walk_at "dr"))
  | ((with_reducible show EV _ (tFld _ _ _) _ _); exact ev_fld (by walk_at "dv") (by first | exact .st | exact .li | exact .fi) (by with_reducible assumption) (by with_reducible assumption) (by with_unfolding_all exact Eq.refl _))
  | ((with_reducible show EV _ (tProp _ _ _ _ _) _ _); exact ev_prop (by walk_at "dv") (by walk_at "dt") (by walk_at "dr"))
  | ((with_reducible show EV _ (tMethW _ _ _ _ _ _) _ _); exact ev_meth (by walk_at "dv") (by with_unfolding_all exact Eq.refl _) (by walk_at "dv") (by walk_at "dt") (by walk_at "dr")))
local macro_rules | `(tactic| walk_at "do") => `(tactic| with_reducible first
  | exact add_int | exact sub_int | exact lt_int | exact le_int | exact gt_int | exact ge_int
  | exact ix_lst .st (by assumption) | exact ix_lst .fr (by assumption) | exact ix_lst .ls (by assumption) | exact ix_tup (by assumption)
  | exact ix_tup (by with_unfolding_all exact Eq.refl _) | exact ix_lst .st (by with_unfolding_all exact Eq.refl _) | exact ix_lst .ls (by with_unfolding_all exact Eq.refl _) | exact ix_lst .fr (by with_unfolding_all exact Eq.refl _)
  | exact eq_int | exact ne_int | exact eq_strV | exact eq_str (by walk_at "ds") (by walk_at "ds") | exact ne_str (by walk_at "ds") (by walk_at "ds")
  | exact eq_dat .st .st (by walk_at "ds") (by walk_at "ds") | exact ne_dat .st .st (by walk_at "ds") (by walk_at "ds")
  | exact notin_lst .st .ls (by walk_at "ds") (by walk_at "ds") | exact in_lst .st .st (by walk_at "ds") (by walk_at "ds") | exact in_lst .st .ls (by walk_at "ds") (by walk_at "ds")
  | exact in_tup .st (by walk_at "ds") (by walk_at "ds")
  | exact mul_int (by walk_at "ds") | exact mod_int (by walk_at "ds") | exact fdiv_int (by walk_at "ds"))
local macro_rules | `(tactic| walk_at "dc") => `(tactic| with_reducible first
  | exact len_tup | exact len_lst .st | exact len_lst .ls | exact len_lst .fr
  | exact abs_int | exact max2_int | exact min2_int | exact min3_int | exact int_int | exact int_bl
  | exact list_tup | exact list_lst .st | exact list_lst .ls | exact list_lst .fr
  | exact all_bls .st | exact all_bls .ls | exact all_bls .fr)
local macro_rules | `(tactic| walk_at "dt") => `(tactic| first
  | ((with_reducible show Stb (Vd.st _) _); exact Stb.st)
  | ((with_reducible show Stb (Vd.fr _) _); exact Stb.fr)
  | ((with_reducible show Stb (Vd.fi _ _) _); exact Stb.fi)
  | ((with_reducible show Stbs [] _); with_reducible exact Stbs.nil)
  | ((with_reducible show Stbs (_ :: _) _); exact Stbs.cons (by walk_at "dt") (by walk_at "dt")))
local macro_rules | `(tactic| walk_at "dg") => `(tactic| first
  | ((with_reducible show GV _ gNil _ _ _); with_reducible exact gv_nil)
  | ((with_reducible show GV _ (gCons (gName _) _) (_ :: _) _ _); exact gv_cons (by walk_at "dg")))
local macro_rules | `(tactic| walk_at "sv") => `(tactic| first
  | with_reducible refine sv_seq ?_
  | with_reducible refine sv_next ?_
  | ((with_reducible show SV _ _ (tIfS _ _ _) _ _); refine sv_if (by walk_at "dv") ?_ ?_)
  | ((with_reducible show SV _ _ (tRet _) _ _); refine sv_retV (by walk_at "dv") (by walk_at "dt") ?_)
  | ((with_reducible show SV _ _ (tAsg _ (gTup _ _ _)) _ _); refine sv_tup (ee_of (by walk_at "dv") (by walk_at "dt")) (by rfl) (by walk_at "dg") ?_)
  | ((with_reducible show SV _ _ (tAsg _ (gName _)) _ _); refine sv_setV (by walk_at "dv") (by walk_at "dt") ?_)
  | ((with_reducible show SV _ _ (tPar _ _ _) _ _); refine sv_par (by walk_at "dv") (by walk_at "dt") ?_)
  | ((with_reducible show SV _ _ (tRaise0 _ _) _ _); refine sv_raise0 ?_)
  | ((with_reducible show SV _ _ (tRaise1 _ _ _ _) _ _); refine sv_raise1 (by walk_at "dv") (by walk_at "dt") ?_)
  | ((with_reducible refine thn_nx ?_); try dsimp only [List.set]))
local macro_rules | `(tactic| walk_at "sx") => `(tactic| first | (intro hx; exact absurd hx (by decide)) | (intro hx; exfalso; simp at hx))
local macro_rules | `(tactic| walk_at "bo") => `(tactic| (simp only [Bool.or_eq_true, Bool.not_eq_true', Bool.and_eq_false_iff, Bool.or_eq_false_iff, Bool.not_eq_false', decide_eq_false_iff_not, decide_eq_true_eq, Bool.and_eq_true, Bool.eq_false_iff, ne_eq, Bool.true_and, Bool.and_true] at * <;> omega))
section
variable {P : Program} {w : World} {K : Frag} {mg : Str → Option Value} {base : Heap} {cS cI cU cT cM cD cNU cNR cNB : Addr}
/-- changes as a list -/
def R_list (cI cU cT cM : Addr) (RA : List (Str × D) → List D → Res → List (Str × D) → Prop) (fs : List (Str × D)) (ds : List D) (r : Res) (fs' : List (Str × D)) : Prop := fs.lookup ("change_all" : Str) = none ∧ (∃ x, ds = [x]) ∧ ((RA fs ds (.ret .non) fs' ∧ r = .ret .non) ∨
  ∃ wd v, RA fs ds (excR cI cU cT cM wd v) fs' ∧ (wd = "taken" ∨ wd = "star" ∨ wd = "motion" ∨ (wd = "sky" ∧ v = .non)) ∧ r = .ret (.tup [.str wd, v]))
theorem f_lall {RA : List (Str × D) → List D → Res → List (Str × D) → Prop} {j : Nat} (hj : 2 ≤ j) {f : Addr} {fd : FuncData} (F : Fun K "_law_all" "_law_all" s__law_all f fd) (m_Desk_change_all : MthN P w K mg base j cD "change_all" (spM K cD RA))
    (e_StarTaken : Ex1 P w K mg base 1 "StarTaken" cT "star") (e_UnknownStar : Ex1 P w K mg base 1 "UnknownStar" cU "number") (e_InvalidMotion : Ex1 P w K mg base 1 "InvalidMotion" cM "motion") (e_InvalidSky : Ex0 K mg "InvalidSky" cI) (xd : ExmD K cT cU cM cI) :
    FnOk P w K mg base (L2.CX P w) (j + 1) f fd ["_law_desk", "_law_deeds"] (spM K cD (R_list cI cU cT cM RA)) := by
  refine fnM F sc__law_all ?_ fun cdv A outer s H E hr => ?_
  rotate_left
  have tk : Takes (cx P w K mg base N__law_all "_law_all" s__law_all f cdv A outer s H E) (wE E) := takes_of rfl rfl rfl rfl
  have po : PassesOwn (model (cx P w K mg base N__law_all "_law_all" s__law_all f cdv A outer s H E).prog (cx P w K mg base N__law_all "_law_all" s__law_all f cdv A outer s H E).w) (cx P w K mg base N__law_all "_law_all" s__law_all f cdv A outer s H E).A (cx P w K mg base N__law_all "_law_all" s__law_all f cdv A outer s H E).env (cx P w K mg base N__law_all "_law_all" s__law_all f cdv A outer s H E).xe := passes_of (X := cx P w K mg base N__law_all "_law_all" s__law_all f cdv A outer s H E) rfl
  have sc := sc__law_all
  refine ⟨_, (pss_one (u_try rfl rfl tk (fun W2 pn xe tk2 po2 => (pss_one (ps_ret (u_meth m_Desk_change_all tk2 hr (by first | decide | omega) (pv 0) (pa_cons (pv 1) pa_nil))))) (HdN.as (i := 2) sc.nd rfl rfl e_StarTaken.names (fun a oe cls d pn hz hf => (pss_one (ps_ret (pe_tup (pa_cons pe_str (pa_cons (u_efld e_StarTaken hz hf (pv 2)) pa_nil)))))) (HdN.as (i := 2) sc.nd rfl rfl e_UnknownStar.names (fun a oe cls d pn hz hf => (pss_one (ps_ret (pe_tup (pa_cons pe_str (pa_cons (u_efld e_UnknownStar hz hf (pv 2)) pa_nil)))))) (HdN.as (i := 2) sc.nd rfl rfl e_InvalidMotion.names (fun a oe cls d pn hz hf => (pss_one (ps_ret (pe_tup (pa_cons pe_str (pa_cons (u_efld e_InvalidMotion hz hf (pv 2)) pa_nil)))))) (HdN.only e_InvalidSky.names (fun a oe cls d pn hz hf => (pss_one (ps_ret (pe_tup (pa_cons pe_str (pa_cons pe_non pa_nil)))))) HdN.nil)))))), ?_⟩
  try simp only [show (cx P w K mg base N__law_all "_law_all" s__law_all f cdv A outer s H E).K = K from rfl, show (cx P w K mg base N__law_all "_law_all" s__law_all f cdv A outer s H E).prog = P from rfl, show (cx P w K mg base N__law_all "_law_all" s__law_all f cdv A outer s H E).w = w from rfl]
  clear tk po sc
  · rintro fs ds r fs' ⟨hl, ⟨x, rfl⟩, ⟨hR, rfl⟩ | ⟨wd, v, hR, hw, rfl⟩⟩
    · refine sv_try fun W => ?_
      simp only [startM, List.map_cons, List.map_nil, List.length_cons, List.length_nil, Nat.reduceAdd, Nat.reduceSub, List.reduceReplicate, List.cons_append, List.nil_append]
      exact sv_ret (ee_methO rfl hl (av_cons (by walk_at "dv") av_nil) (.cons .st .nil) hR) ⟨rfl, rfl⟩
    · refine sv_try fun W => ?_
      simp only [startM, List.map_cons, List.map_nil, List.length_cons, List.length_nil, Nat.reduceAdd, Nat.reduceSub, List.reduceReplicate, List.cons_append, List.nil_append]
      rcases hw with rfl | rfl | rfl | ⟨rfl, rfl⟩
      · rw [show excR cI cU cT cM "taken" v = .exc cT (some [("star", v)]) from if_pos rfl] at hR
        refine sv_retX (xx_methO rfl hl (av_cons (by walk_at "dv") av_nil) (.cons .st .nil) hR) ?_
        refine ⟨true, xd.tt, fun _ => ⟨_, rfl, fun a dd => ?_⟩, (fun z => nomatch z)⟩
        exact sv_retV (ev_tup (av_cons ev_str (av_cons (ev_xf (ev_var rfl) rfl) av_nil)) (.cons .st (.cons .st .nil)) (Nat.le_of_ble_eq_true rfl)) .st ⟨rfl, rfl⟩
      · rw [show excR cI cU cT cM "star" v = .exc cU (some [("number", v)]) from (if_neg (by decide)).trans (if_pos rfl)] at hR
        refine sv_retX (xx_methO rfl hl (av_cons (by walk_at "dv") av_nil) (.cons .st .nil) hR) ?_
        refine ⟨false, xd.ut, (fun z => nomatch z), fun _ => ⟨true, xd.uu, fun _ => ⟨_, rfl, fun a dd => ?_⟩, (fun z => nomatch z)⟩⟩
        exact sv_retV (ev_tup (av_cons ev_str (av_cons (ev_xf (ev_var rfl) rfl) av_nil)) (.cons .st (.cons .st .nil)) (Nat.le_of_ble_eq_true rfl)) .st ⟨rfl, rfl⟩
      · rw [show excR cI cU cT cM "motion" v = .exc cM (some [("motion", v)]) from (if_neg (by decide)).trans ((if_neg (by decide)).trans (if_pos rfl))] at hR
        refine sv_retX (xx_methO rfl hl (av_cons (by walk_at "dv") av_nil) (.cons .st .nil) hR) ?_
        refine ⟨false, xd.mt, (fun z => nomatch z), fun _ => ⟨false, xd.mu, (fun z => nomatch z), fun _ => ⟨true, xd.mm, fun _ => ⟨_, rfl, fun a dd => ?_⟩, (fun z => nomatch z)⟩⟩⟩
        exact sv_retV (ev_tup (av_cons ev_str (av_cons (ev_xf (ev_var rfl) rfl) av_nil)) (.cons .st (.cons .st .nil)) (Nat.le_of_ble_eq_true rfl)) .st ⟨rfl, rfl⟩
      · rw [show excR cI cU cT cM "sky" .non = .exc cI none from (if_neg (by decide)).trans ((if_neg (by decide)).trans (if_neg (by decide)))] at hR
        refine sv_retX (xx_methO rfl hl (av_cons (by walk_at "dv") av_nil) (.cons .st .nil) hR) ?_
        refine ⟨false, xd.it, (fun z => nomatch z), fun _ => ⟨false, xd.iu, (fun z => nomatch z), fun _ => ⟨false, xd.im, (fun z => nomatch z), fun _ => ⟨true, xd.ii, fun _ a od => ?_, (fun z => nomatch z)⟩⟩⟩⟩
        exact sv_retV (ev_tup (av_cons ev_str (av_cons ev_non av_nil)) (.cons .st (.cons .st .nil)) (Nat.le_of_ble_eq_true rfl)) .st ⟨rfl, rfl⟩
  · rintro fs ds r fs' ⟨hl, ⟨x, rfl⟩, _⟩
    rfl
abbrev RM0 (cS cI cU cT cM : Addr) := R_make cS cI cU cT cM (fun _ _ _ _ => False)
abbrev RA0 (cS cI cU cT cM : Addr) := R_all cS (RM0 cS cI cU cT cM)
abbrev RM1 (cS cI cU cT cM : Addr) := R_make cS cI cU cT cM (RA0 cS cI cU cT cM)
abbrev RA1 (cS cI cU cT cM : Addr) := R_all cS (RM1 cS cI cU cT cM)
abbrev RM2 (cS cI cU cT cM : Addr) := R_make cS cI cU cT cM (RA1 cS cI cU cT cM)
abbrev RA2 (cS cI cU cT cM : Addr) := R_all cS (RM2 cS cI cU cT cM)
abbrev RL (cS cI cU cT cM : Addr) := R_list cI cU cT cM (RA2 cS cI cU cT cM)
/-- what makes plain changes, and lists of plain changes -/
abbrev RMg (cS cI cU cT cM : Addr) (RA' : List (Str × D) → List D → Res → List (Str × D) → Prop) := R_make cS cI cU cT cM (R_all cS (R_make cS cI cU cT cM RA'))
theorem excR_exc (cI cU cT cM : Addr) (wd : Str) (v : D) : ∃ C fx, excR cI cU cT cM wd v = .exc C fx := by
  unfold excR
  split
  · exact ⟨_, _, rfl⟩
  · split
    · exact ⟨_, _, rfl⟩
    · split <;> exact ⟨_, _, rfl⟩
theorem behM_word {s : Sk} {dd : Dd} {wd : Str} {v : D} (e : behM s dd = .no wd v) : wd = "taken" ∨ wd = "star" ∨ wd = "motion" ∨ (wd = "sky" ∧ v = .non) := by
  cases dd with
  | star x y b =>
    unfold behM at e
    dsimp only at e
    split at e
    · cases e; exact .inl rfl
    · split at e
      · cases e
      · cases e; exact .inr (.inr (.inr ⟨rfl, rfl⟩))
  | noStar n =>
    unfold behM at e
    dsimp only at e
    split at e
    · cases e
    · cases e; exact .inr (.inl rfl)
  | cam c =>
    unfold behM at e
    dsimp only at e
    split at e
    · cases e
    · cases e; exact .inr (.inr (.inr ⟨rfl, rfl⟩))
  | move a b q =>
    unfold behM at e
    dsimp only at e
    split at e
    · cases e
    · cases e; exact .inr (.inr (.inl rfl))
section
variable {RA : List (Str × D) → List D → Res → List (Str × D) → Prop} {RM : List (Str × D) → List D → Res → List (Str × D) → Prop}
theorem rm_ok {d : Dk} {dd : Dd} {s' : Sk} (hs : d.st.solid) (hm : dd.sm) (hl : d.past.length ≤ 1000) (e : behM d.st dd = .ok s') : R_make cS cI cU cT cM RA (d.fs cS) [dd.d] (.ret .non) ((d.push s').fs cS) :=
  ⟨d, rfl, .inl ⟨dd, rfl, chg_ok hs hm hl e, .inl rfl⟩⟩
theorem rm_no {d : Dk} {dd : Dd} {wd : Str} {v : D} (hs : d.st.solid) (hm : dd.sm) (hl : d.past.length ≤ 1000) (e : behM d.st dd = .no wd v) : R_make cS cI cU cT cM RA (d.fs cS) [dd.d] (excR cI cU cT cM wd v) (d.fs cS) :=
  ⟨d, rfl, .inl ⟨dd, rfl, chg_no hs hm hl e, .inr (excR_exc _ _ _ _ _ _)⟩⟩
theorem chn_stop {d d1 : Dk} {x : D} {xs : List D} {wd : Str} {v : D} (h : RM (d.fs cS) [x] (excR cI cU cT cM wd v) (d1.fs cS)) : Chn cS RM d (x :: xs) (excR cI cU cT cM wd v) d1 := by
  obtain ⟨C, fx, e⟩ := excR_exc cI cU cT cM wd v
  rw [e] at h ⊢
  exact .stop h
theorem chn_snoc {d d1 d2 : Dk} {xs ys : List D} {r r' : Res} (h : Chn cS RM d xs r d1) (e : r = .ret .non) (k : Chn cS RM d1 ys r' d2) : Chn cS RM d (xs ++ ys) r' d2 := by
  induction h with
  | nil => exact k
  | step h1 _ ih => exact .step h1 (ih e k)
  | stop h1 => cases e
theorem chn_more {d d1 : Dk} {xs ys : List D} {r : Res} (h : Chn cS RM d xs r d1) (e : ∃ C fx, r = .exc C fx) : Chn cS RM d (xs ++ ys) r d1 := by
  induction h with
  | nil => obtain ⟨C, fx, e⟩ := e; cases e
  | step h1 _ ih => exact .step h1 (ih e)
  | stop h1 => exact .stop h1
/-- a change, as it stands in the list -/
def eltD (dd : Dd) (wr : Bool) : D := if wr = true then .tup [.str "all", .lst [dd.d]] else dd.d
theorem rmg_ok {d : Dk} {dd : Dd} {s' : Sk} (hs : d.st.solid) (hm : dd.sm) (hl : d.past.length ≤ 1000) (e : behM d.st dd = .ok s') (wr : Bool) : RMg cS cI cU cT cM RA (d.fs cS) [eltD dd wr] (.ret .non) ((d.push s').fs cS) := by
  cases wr with
  | false => exact rm_ok hs hm hl e
  | true => exact ⟨d, rfl, .inr ⟨_, rfl, ⟨d, [dd.d], Dk.push ⟨d.st, d.past, d.fut, .tup []⟩ s', rfl, rfl, .step (rm_ok (d := ⟨d.st, d.past, d.fut, .tup []⟩) hs hm hl e) (.nil _), .inl ⟨rfl, rfl⟩⟩, .inl rfl⟩⟩
theorem rmg_no {d : Dk} {dd : Dd} {wd : Str} {v : D} (hs : d.st.solid) (hm : dd.sm) (hl : d.past.length ≤ 1000) (e : behM d.st dd = .no wd v) (wr : Bool) : RMg cS cI cU cT cM RA (d.fs cS) [eltD dd wr] (excR cI cU cT cM wd v) (d.fs cS) := by
  cases wr with
  | false => exact rm_no hs hm hl e
  | true => exact ⟨d, rfl, .inr ⟨_, rfl, ⟨d, [dd.d], ⟨d.st, d.past, d.fut, .tup []⟩, rfl, rfl, chn_stop (rm_no (d := ⟨d.st, d.past, d.fut, .tup []⟩) hs hm hl e), .inr ⟨excR_exc _ _ _ _ _ _, rfl⟩⟩, .inr (excR_exc _ _ _ _ _ _)⟩⟩
end
def inner (d : Dk) : Dk := ⟨d.st, d.past, d.fut, .tup []⟩
def wrapL (wr : Bool) (X : List D) : List D := if wr = true then [.tup [.str "all", .lst X]] else X
theorem all_ok {d d1 : Dk} {X : List D} (h : ∀ RA', Chn cS (RMg cS cI cU cT cM RA') (inner d) X (.ret .non) d1) (wr : Bool) : RL cS cI cU cT cM (d.fs cS) [.lst (wrapL wr X)] (.ret .non) (Dk.fs cS ⟨d1.st, d1.past, d1.fut, d.bl⟩) := by
  refine ⟨rfl, ⟨_, rfl⟩, .inl ⟨?_, rfl⟩⟩
  cases wr with
  | false => exact ⟨d, X, d1, rfl, rfl, h (RA0 cS cI cU cT cM), .inl ⟨rfl, rfl⟩⟩
  | true => exact ⟨d, _, ⟨d1.st, d1.past, d1.fut, .tup []⟩, rfl, rfl, .step ⟨inner d, rfl, .inr ⟨_, rfl, ⟨inner d, X, d1, rfl, rfl, h (fun _ _ _ _ => False), .inl ⟨rfl, rfl⟩⟩, .inl rfl⟩⟩ (.nil _), .inl ⟨rfl, rfl⟩⟩
theorem all_no {d : Dk} {X : List D} {wd : Str} {v : D} (hw : wd = "taken" ∨ wd = "star" ∨ wd = "motion" ∨ (wd = "sky" ∧ v = .non)) (h : ∀ RA', ∃ d1, Chn cS (RMg cS cI cU cT cM RA') (inner d) X (excR cI cU cT cM wd v) d1) (wr : Bool) : RL cS cI cU cT cM (d.fs cS) [.lst (wrapL wr X)] (.ret (.tup [.str wd, v])) (d.fs cS) := by
  refine ⟨rfl, ⟨_, rfl⟩, .inr ⟨wd, v, ?_, hw, rfl⟩⟩
  cases wr with
  | false =>
    obtain ⟨d1, h1⟩ := h (RA0 cS cI cU cT cM)
    exact ⟨d, X, d1, rfl, rfl, h1, .inr ⟨excR_exc _ _ _ _ _ _, rfl⟩⟩
  | true =>
    obtain ⟨d1, h1⟩ := h (fun _ _ _ _ => False)
    exact ⟨d, _, inner d, rfl, rfl, chn_stop ⟨inner d, rfl, .inr ⟨_, rfl, ⟨inner d, X, d1, rfl, rfl, h1, .inr ⟨excR_exc _ _ _ _ _ _, rfl⟩⟩, .inr (excR_exc _ _ _ _ _ _)⟩⟩, .inr ⟨excR_exc _ _ _ _ _ _, rfl⟩⟩
/-- the numbers of a drawn change are small -/
theorem deed_rp {s : Sk} {ns : List Int} {at' : Nat} (hf : s.fine) : Rp 3 9000 (deedM s ns at').d := by
  have b12 : (10 : Nat) ^ 12 = 1000000000000 := by decide
  have i1 : ∀ i : Int, i.natAbs < 10 ^ 12 → Rp 1 1920 (.int i) := fun i h => Rp.int h
  have t3 : ∀ x y z : Int, x.natAbs < 10 ^ 12 → y.natAbs < 10 ^ 12 → z.natAbs < 10 ^ 12 → Rp 2 5763 (tupD [x, y, z]) := fun x y z h1 h2 h3 => ((Rps.nil.cons (i1 z h3)).cons (i1 y h2)).cons (i1 x h1) |>.tup
  have pr : ∀ (w : Str) (u : D) (m : Nat), Rp 2 m u → (PyData.str w).canLay0 = true → (w.cps.toList.all fun c => decide (c < 16 ^ 8)) = true → w.cps.size ≤ 20 → m ≤ 8900 → Rp 3 9000 (.tup [.str w, u]) := fun w u m h1 h2 h3 h4 h5 =>
    ((Rps.nil.cons h1).cons ((Rp.str (m := 20) h2 h3 h4).mono (by decide) (Nat.le_refl _))).tup.mono (Nat.le_refl _) (by omega)
  have md : ∀ (a b : Int), 0 < b → 0 ≤ a % b ∧ a % b < b := fun a b h => ⟨Int.emod_nonneg _ (by omega), Int.emod_lt_of_pos _ h⟩
  have h4 := hf.s0
  have h9 := hf.s9
  have hl := hf.len
  unfold deedM
  dsimp only
  split
  · rename_i hc
    simp only [Bool.and_eq_true, decide_eq_true_eq] at hc
    have hm := md (ns.getD (at' + 1 + 1) 0) (s.kss.length : Int) hc.2.2
    have hmem : s.kss.getD (ns.getD (at' + 1 + 1) 0 % (s.kss.length : Int)).toNat [] ∈ s.kss := by
      have hlt : (ns.getD (at' + 1 + 1) 0 % (s.kss.length : Int)).toNat < s.kss.length := by omega
      rw [List.getD_eq_getElem?_getD, List.getElem?_eq_getElem hlt]
      exact List.getElem_mem hlt
    obtain ⟨k3, kb⟩ := hf.k3 _ hmem
    generalize s.kss.getD (ns.getD (at' + 1 + 1) 0 % (s.kss.length : Int)).toNat [] = k at k3 kb
    obtain ⟨x, y, c, rfl⟩ := star3 k3
    have e1 := kb x (by simp)
    have e2 := kb y (by simp)
    have e3 := kb c (by simp)
    exact pr "star" _ _ (t3 x y c (by omega) (by omega) (by omega)) (by decide +kernel) (by decide +kernel) (by decide +kernel) (by decide)
  · split
    · have a1 := md (ns.getD (at' + 1) 0) s.side (by omega)
      have a2 := md (ns.getD (at' + 1 + 1) 0) s.side (by omega)
      have a3 := md (ns.getD (at' + 1 + 2) 0) 10 (by decide)
      refine pr "star" _ _ (t3 _ _ _ (by omega) (by omega) ?_) (by decide +kernel) (by decide +kernel) (by decide +kernel) (by decide)
      unfold b2
      split <;> split <;> omega
    · split
      · have a1 := md (ns.getD (at' + 1) 0) ((s.kss.length : Int) + 1) (by omega)
        refine pr "no star" _ 1920 ((i1 _ ?_).mono (by decide) (Nat.le_refl _)) (by decide +kernel) (by decide +kernel) (by decide +kernel) (by decide)
        unfold b2
        split <;> omega
      · split
        · have a1 := md (ns.getD (at' + 1) 0) 4 (by decide)
          have a2 := md (ns.getD (at' + 1 + 1) 0) 3 (by decide)
          have a3 := md (ns.getD (at' + 1 + 2) 0) 3 (by decide)
          have a4 := md (ns.getD (at' + 1 + 3) 0) 9 (by decide)
          have a5 : ns.getD (at' + 1 + 2) 0 % 2 = 0 ∨ ns.getD (at' + 1 + 2) 0 % 2 = 1 := by omega
          have a6 : (ns.getD (at' + 1 + 1) 0 % 3 * (ns.getD (at' + 1 + 2) 0 % 2)).natAbs < 10 ^ 12 := by
            rcases a5 with e | e <;> rw [e] <;> omega
          have t4 : ∀ x y z t : Int, x.natAbs < 10 ^ 12 → y.natAbs < 10 ^ 12 → z.natAbs < 10 ^ 12 → t.natAbs < 10 ^ 12 → Rp 2 7684 (.tup [.int x, .int y, .int z, .int t]) := fun x y z t h1 h2 h3 h4 => (((Rps.nil.cons (i1 t h4)).cons (i1 z h3)).cons (i1 y h2)).cons (i1 x h1) |>.tup
          exact pr "camera" _ _ (t4 (ns.getD (at' + 1) 0 % 4) (ns.getD (at' + 1 + 1) 0 % 3 * (ns.getD (at' + 1 + 2) 0 % 2)) (ns.getD (at' + 1 + 2) 0 % 3) (1 + ns.getD (at' + 1 + 3) 0 % 9) (by omega) a6 (by omega) (by omega)) (by decide +kernel) (by decide +kernel) (by decide +kernel) (by decide)
        · have a1 := md (ns.getD (at' + 1) 0) s.side (by omega)
          have a2 := md (ns.getD (at' + 1 + 1) 0) s.side (by omega)
          have a4 := md (ns.getD (at' + 1 + 3) 0) 4 (by decide)
          have a6 : (s.side * b2 (decide (ns.getD (at' + 1 + 2) 0 % 7 = 6))).natAbs ≤ 9 := by
            unfold b2
            split <;> simp <;> omega
          exact pr "move" _ _ (t3 _ _ _ (by omega) (by omega) (by omega)) (by decide +kernel) (by decide +kernel) (by decide +kernel) (by decide)
end
end DL

set_option maxRecDepth 100000
set_option maxHeartbeats 1000000
namespace DL
open PySem L2
local macro_rules | `(tactic| walk_at "ds") => `(tactic| first | with_reducible assumption | exact eqok_tupD _ | exact eqok_kss _ | exact eqok3 | with_unfolding_all exact Eq.refl _ | exact Nat.le_of_ble_eq_true (Eq.refl true) | omega | decide | exact cdivW (by omega))
local macro_rules | `(tactic| walk_at "dv") => `(tactic| first
  | ((with_reducible show EV _ (tVar _) _ _); first | exact ev_var (by with_unfolding_all exact Eq.refl _) | exact ev_own (by with_unfolding_all exact Eq.refl _) | exact ev_ownI (by with_unfolding_all exact Eq.refl _))
  | ((with_reducible show EV _ (tC _) _ _); with_reducible first | exact ev_int | exact ev_str | exact ev_bl | exact ev_non)
  | ((with_reducible show EV _ (tOp _ _ _) _ _); exact ev_op (by walk_at "dv") (by walk_at "dv") (by walk_at "do"))
  | ((with_reducible show EV _ (tUn _ _) _ _); exact ev_un (by walk_at "dv") (by with_reducible exact neg_int))
  | ((with_reducible show EV _ (tChain _ _ _ _ _) _ _); exact ev_chain (by walk_at "dv") (by walk_at "dv") (by walk_at "do") (fun _ => by walk_at "dv") (fun _ => by walk_at "do"))
  | ((with_reducible show EV _ (tCB _ _) _ _); exact ev_cb (by walk_at "dv") (by walk_at "dc"))
  | ((with_reducible show EV _ (tAndV _ _) _ _); exact ev_andV (by walk_at "dv") (fun _ => by walk_at "dv"))
  | ((with_reducible show EV _ (tOrV _ _) _ _); exact ev_orV (by walk_at "dv") (fun _ => by walk_at "dv"))
  | ((with_reducible show EV _ (tNotV _) _ _); exact ev_notV (by walk_at "dv"))
  | ((with_reducible show EV _ (tIf _ _ _) _ _); exact ev_if (by walk_at "dv") (fun _ => by walk_at "dv") (fun _ => by walk_at "dv"))
  | ((with_reducible show EV _ (tSl _ _ _ _) _ _); exact ev_sl (by walk_at "dv") (by walk_at "dv") (by walk_at "dv") (by walk_at "dl"))
  | ((with_reducible show EV _ (tTup _) _ _); exact ev_tup (by walk_at "dv") (by walk_at "dt") (by walk_at "ds"))
  | ((with_reducible show EV _ (tLst _) _ _); exact ev_lst (by walk_at "dv") (by walk_at "dt") (by walk_at "ds"))
  | ((with_reducible show AV _ tNil _ _); exact av_nil)
  | ((with_reducible show AV _ (tCons _ _) _ _); exact av_cons (by walk_at "dv") (by walk_at "dv"))
  | ((with_reducible show OV _ tNoPart _ _); exact ov_none)
  | ((with_reducible show OV _ (tPart _) _ _); exact ov_some (by walk_at "dv"))
  | ((with_reducible show TV _ (tTest _) _ _); exact tv_test (by walk_at "dv"))
  | ((with_reducible show TV _ (tB _) _ _); exact tv_B (by walk_at "dv"))
  | ((with_reducible show TV _ (tNot _) _ _); exact tv_not (by walk_at "dv"))
  | ((with_reducible show TV _ (tAnd _ _) _ _); exact tv_and (by walk_at "dv") (fun _ => by walk_at "dv"))
  | ((with_reducible show TV _ (tOr _ _) _ _); exact tv_or (by walk_at "dv") (fun _ => by walk_at "dv"))
  | ((fail_if_success (with_reducible first | show TV _ (tTest _) _ _ | show TV _ (tB _) _ _ | show TV _ (tNot _) _ _ | show TV _ (tAnd _ _) _ _ | show TV _ (tOr _ _) _ _)); (with_reducible show TV _ _ _ _); exact tv_truB (by walk_at "dv"))
  | ((with_reducible show EV _ (tCallS _ _ _) _ _); exact ev_call (by walk_at "dv") (by walk_at "dt") (by walk_at "dr"))
  | ((with_reducible show EV _ (tFld _ _ _) _ _); exact ev_fld (by walk_at "dv") (by first | exact .st | exact .li | exact .fi) (by with_reducible assumption) (by with_reducible assumption) (by with_unfolding_all exact Eq.refl _))
  | ((with_reducible show EV _ (tProp _ _ _ _ _) _ _); exact ev_prop (by walk_at "dv") (by walk_at "dt") (by walk_at "dr"))
  | ((with_reducible show EV _ (tMethW _ _ _ _ _ _) _ _); exact ev_meth (by walk_at "dv") (by with_unfolding_all exact Eq.refl _) (by walk_at "dv") (by walk_at "dt") (by walk_at "dr")))
local macro_rules | `(tactic| walk_at "do") => `(tactic| with_reducible first
  | exact add_int | exact sub_int | exact lt_int | exact le_int | exact gt_int | exact ge_int
  | exact ix_lst .st (by assumption) | exact ix_lst .fr (by assumption) | exact ix_lst .ls (by assumption) | exact ix_tup (by assumption)
  | exact ix_tup (by with_unfolding_all exact Eq.refl _) | exact ix_lst .st (by with_unfolding_all exact Eq.refl _) | exact ix_lst .ls (by with_unfolding_all exact Eq.refl _) | exact ix_lst .fr (by with_unfolding_all exact Eq.refl _)
  | exact eq_int | exact ne_int | exact eq_strV | exact eq_str (by walk_at "ds") (by walk_at "ds") | exact ne_str (by walk_at "ds") (by walk_at "ds")
  | exact eq_dat .st .st (by walk_at "ds") (by walk_at "ds") | exact ne_dat .st .st (by walk_at "ds") (by walk_at "ds")
  | exact notin_lst .st .ls (by walk_at "ds") (by walk_at "ds") | exact in_lst .st .st (by walk_at "ds") (by walk_at "ds") | exact in_lst .st .ls (by walk_at "ds") (by walk_at "ds")
  | exact in_tup .st (by walk_at "ds") (by walk_at "ds")
  | exact mul_int (by walk_at "ds") | exact mod_int (by walk_at "ds") | exact fdiv_int (by walk_at "ds"))
local macro_rules | `(tactic| walk_at "dc") => `(tactic| with_reducible first
  | exact len_tup | exact len_lst .st | exact len_lst .ls | exact len_lst .fr
  | exact abs_int | exact max2_int | exact min2_int | exact min3_int | exact int_int | exact int_bl
  | exact list_tup | exact list_lst .st | exact list_lst .ls | exact list_lst .fr
  | exact all_bls .st | exact all_bls .ls | exact all_bls .fr)
local macro_rules | `(tactic| walk_at "dt") => `(tactic| first
  | ((with_reducible show Stb (Vd.st _) _); exact Stb.st)
  | ((with_reducible show Stb (Vd.fr _) _); exact Stb.fr)
  | ((with_reducible show Stb (Vd.fi _ _) _); exact Stb.fi)
  | ((with_reducible show Stbs [] _); with_reducible exact Stbs.nil)
  | ((with_reducible show Stbs (_ :: _) _); exact Stbs.cons (by walk_at "dt") (by walk_at "dt")))
local macro_rules | `(tactic| walk_at "dg") => `(tactic| first
  | ((with_reducible show GV _ gNil _ _ _); with_reducible exact gv_nil)
  | ((with_reducible show GV _ (gCons (gName _) _) (_ :: _) _ _); exact gv_cons (by walk_at "dg")))
local macro_rules | `(tactic| walk_at "sv") => `(tactic| first
  | with_reducible refine sv_seq ?_
  | with_reducible refine sv_next ?_
  | ((with_reducible show SV _ _ (tIfS _ _ _) _ _); refine sv_if (by walk_at "dv") ?_ ?_)
  | ((with_reducible show SV _ _ (tRet _) _ _); refine sv_retV (by walk_at "dv") (by walk_at "dt") ?_)
  | ((with_reducible show SV _ _ (tAsg _ (gTup _ _ _)) _ _); refine sv_tup (ee_of (by walk_at "dv") (by walk_at "dt")) (by rfl) (by walk_at "dg") ?_)
  | ((with_reducible show SV _ _ (tAsg _ (gName _)) _ _); refine sv_setV (by walk_at "dv") (by walk_at "dt") ?_)
  | ((with_reducible show SV _ _ (tPar _ _ _) _ _); refine sv_par (by walk_at "dv") (by walk_at "dt") ?_)
  | ((with_reducible show SV _ _ (tRaise0 _ _) _ _); refine sv_raise0 ?_)
  | ((with_reducible show SV _ _ (tRaise1 _ _ _ _) _ _); refine sv_raise1 (by walk_at "dv") (by walk_at "dt") ?_)
  | ((with_reducible refine thn_nx ?_); try dsimp only [List.set]))
local macro_rules | `(tactic| walk_at "sx") => `(tactic| first | (intro hx; exact absurd hx (by decide)) | (intro hx; exfalso; simp at hx))
local macro_rules | `(tactic| walk_at "bo") => `(tactic| (simp only [Bool.or_eq_true, Bool.not_eq_true', Bool.and_eq_false_iff, Bool.or_eq_false_iff, Bool.not_eq_false', decide_eq_false_iff_not, decide_eq_true_eq, Bool.and_eq_true, Bool.eq_false_iff, ne_eq, Bool.true_and, Bool.and_true] at * <;> omega))
section
variable {P : Program} {w : World} {K : Frag} {mg : Str → Option Value} {base : Heap} {cS cI cU cT cM cD cNU cNR cNB : Addr}
theorem behM_side {s s' : Sk} {dd : Dd} (e : behM s dd = .ok s') : s'.side = s.side := by
  cases dd with
  | star x y b =>
    unfold behM at e
    dsimp only at e
    split at e
    · cases e
    · split at e
      · cases e; rfl
      · cases e
  | noStar n =>
    unfold behM at e
    dsimp only at e
    split at e <;> cases e
    rfl
  | cam c =>
    unfold behM at e
    dsimp only at e
    split at e <;> cases e
    rfl
  | move a b q =>
    unfold behM at e
    dsimp only at e
    split at e <;> cases e
    rfl
/-- a sky of this side that stands -/
def Sof (side : Int) (s : Sk) : Prop := s.solid ∧ s.side = side
structure Dal (side : Int) (n : Nat) (d : Dk) : Prop where
  st : Sof side d.st
  pa : ∀ s ∈ d.past, Sof side s
  fu : ∀ s ∈ d.fut, Sof side s
  ln : d.past.length + d.fut.length ≤ n
theorem ne_strV {i j : Str} : OpD K rNe (.st (.str i)) (.st (.str j)) (.st (.bl (!decide (i = j)))) := fun H0 G H v u Q _ s a b q => by
  obtain rfl := rep_str a
  obtain rfl := rep_str b
  refine ⟨rfl, ?_⟩
  have e : decide (V.str i = V.str j) = decide (i = j) := by
    rw [Bool.eq_iff_iff]
    simp
  rw [e]
  exact q _ G H (Gr.refl s) (.bl _)
theorem ed_ways (d : Dk) : Ed 6 (waysD d) := Eds.tup (.cons ((Ed.int _).mono (by decide)) (.cons ((Eds.lst (Eds.of fun x hx => by
  obtain ⟨s, _, rfl⟩ := List.mem_map.mp hx
  exact ed_skd s)).mono (by decide)) .nil))
def dueD : Option (Str × D) → D
  | none => .non
  | some (w, v) => .tup [.str w, v]
/-- the slots from the list's making on -/
abbrev LawU (xs ns : List Int) (s0 : Sk) (cD cS : Addr) (d : Dk) (s4 : Sl) (st : Sk) (X : List D) (S : List Sk) (due : Option (Str × D)) (s11 s12 : Sl) : List Sl :=
  [.im (.lst (xs.map D.int)), .im (.lst (ns.map D.int)), .im s0.d, .ow (.ins cD (d.fs cS)), s4, .im d.st.d, .im (waysD d), .im st.d, .ow (.lst X), .ow (.lst (S.map Sk.d)), .im (dueD due), s11, s12, .un, .un]
/-- the slots when the list stands -/
abbrev LawE (xs ns : List Int) (s0 : Sk) (cD cS : Addr) (d : Dk) (s4 : Sl) (d2 : Dk) (st : Sk) (X : List D) (wr : Bool) (S : List Sk) (due : Option (Str × D)) (s11 s12 s13 s14 : Sl) : List Sl :=
  [.im (.lst (xs.map D.int)), .im (.lst (ns.map D.int)), .im s0.d, .ow (.ins cD (d2.fs cS)), s4, .im d.st.d, .im (waysD d), .im st.d, .im (.lst (wrapL wr X)), .ow (.lst (S.map Sk.d)), .im (dueD due), s11, s12, s13, s14]
theorem ne_same {x y : Vd} {e : D} (hx : Rdd x e) (hy : Rdd y e) (h1 : eqOk e = true) (h2 : flat e = true) : OpD K (rNeD K) x y (.st (.bl false)) := by
  have := ne_dat (K := K) hx hy h1 h1
  rwa [eqD_refl h2] at this
theorem eq_same {x y : Vd} {e : D} (hx : Rdd x e) (hy : Rdd y e) (h1 : eqOk e = true) (h2 : flat e = true) : OpD K (rEqD K) x y (.st (.bl true)) := by
  have := eq_dat (K := K) hx hy h1 h1
  rwa [eqD_refl h2] at this
theorem f_law {f : Addr} {fd : FuncData} (F : Fun K "law" "law" s_law f fd) (g_int : mg "int" = none) (g_len : mg "len" = none) (g_range : mg "range" = none) (g_list : mg "list" = none) (g_repr : mg "repr" = none) (c_Desk : ClsN P w K mg base 1 "Desk" cD (spM K cD (R_Desk_init cS))) (c_Sky : ClsN P w K mg base 2 "Sky" cS (spM K cS (R_Sky_init cI)))
    (h__law_behind : DefN P w K mg base 3 "_law_behind" (spF K R_behind)) (h__law_deed : DefN P w K mg base 1 "_law_deed" (spF K R_deed)) (h__law_do : DefN P w K mg base 7 "_law_do" (spM K cD (R_do cS))) (h__law_numbers : DefN P w K mg base 2 "_law_numbers" (spF K R_numbers))
    (h__law_parts : DefN P w K mg base 1 "_law_parts" (spF K R_parts)) (h__law_told : DefN P w K mg base 3 "_law_told" (spM K cD (R_told cS))) (h__law_can : DefN P w K mg base 2 "_law_can" (spM K cD (R_can cS))) (h__law_ways : DefN P w K mg base 4 "_law_ways" (spM K cD (R_ways cS)))
    (h__law_all : DefN P w K mg base 13 "_law_all" (spM K cD (RL cS cI cU cT cM))) (m_Desk_sky_now : MthN P w K mg base 1 cD "sky_now" (spM K cD (R_sky_now cS))) (m_Desk_undo : MthN P w K mg base 1 cD "undo" (spM K cD (R_undo cS cNU)))
    (p_Sky_stars : PrpN P w K mg base 1 cS "stars" (spF K (R_Sky_stars cS))) (p_Sky_camera : PrpN P w K mg base 1 cS "camera" (spF K (R_Sky_camera cS))) : FnOkG P w K mg base (L2.CX P w) 14 f fd ["_law_script"] (spF K R_law) := by
  refine fnG F sc_law ?_ fun cdv A outer s H E hA hr => ?_
  rotate_left
  have tk : Takes (cx P w K mg base N_law "law" s_law f cdv A outer s H E) (wE E) := takes_of rfl rfl rfl rfl
  have po : PassesOwn (model (cx P w K mg base N_law "law" s_law f cdv A outer s H E).prog (cx P w K mg base N_law "law" s_law f cdv A outer s H E).w) (cx P w K mg base N_law "law" s_law f cdv A outer s H E).A (cx P w K mg base N_law "law" s_law f cdv A outer s H E).env (cx P w K mg base N_law "law" s_law f cdv A outer s H E).xe := passes_of (X := cx P w K mg base N_law "law" s_law f cdv A outer s H E) rfl
  have sc := sc_law
  refine ⟨_, (pss_cons (ps_set (i := 1) sc.nd rfl (Or.inl rfl) (u_call h__law_numbers tk hr (by first | decide | omega) rfl (pa_cons (pv 0) (pa_cons pe_int pa_nil))))
    (pss_cons (ps_set (i := 2) sc.nd rfl (Or.inl rfl) (u_call h__law_parts tk hr (by first | decide | omega) rfl (pa_cons (pv 1) (pa_cons pe_int (pa_cons pe_int pa_nil)))))
    (pss_cons (ps_set (i := 3) sc.nd rfl (Or.inl rfl) (u_make c_Desk tk hr (by first | decide | omega) rfl (pa_cons (u_make c_Sky tk hr (by first | decide | omega) rfl (pa_cons (pe_ix ix_seq (pv 2) pe_int (fun _ _ => rfl)) (pa_cons (pe_ix ix_seq (pv 2) pe_int (fun _ _ => rfl)) (pa_cons (pe_ix ix_seq (pv 2) pe_int (fun _ _ => rfl)) pa_nil)))) pa_nil)))
    (pss_cons (ps_for po rfl (pi_range1 (by rfl) g_range (pa_cons pe_int pa_nil)) (pg_name (i := 4) sc.nd rfl (Or.inl rfl)) (pss_one (ps_expr (u_call h__law_do tk hr (by first | decide | omega) rfl (pa_cons (pv 3) (pa_cons (u_call h__law_deed tk hr (by first | decide | omega) rfl (pa_cons (pe_tup (pa_cons (pe_ix ix_seq (pv 2) pe_int (fun _ _ => rfl)) (pa_cons (pe_callTy call_list_of (by rfl) g_list (by decide +kernel) (pa_cons (u_prop p_Sky_stars hr (by first | decide | omega) (u_meth0 m_Desk_sky_now tk hr (by first | decide | omega) (pv 3))) pa_nil)) (pa_cons (u_prop p_Sky_camera hr (by first | decide | omega) (u_meth0 m_Desk_sky_now tk hr (by first | decide | omega) (pv 3))) pa_nil)))) (pa_cons (pv 1) (pa_cons (pe_op u_add pe_int (pe_op op_mulW pe_int (pv 4))) pa_nil)))) pa_nil))))))
    (pss_cons (ps_if (PW.pt (pw_and (pt_cmpR (op_eqD hr.units) (pe_op op_mod (pe_callTy call_int1 (by rfl) g_int (by decide +kernel) (pa_cons (pe_ix ix_seq (pv 1) pe_int (fun _ _ => rfl)) pa_nil)) pe_int) pe_int (nomark _)) (pw_and (pt_truth (u_call h__law_can tk hr (by first | decide | omega) rfl (pa_cons (pv 3) (pa_cons pe_str pa_nil))) (by intro _; rfl)) (pw_and1 (pt_cmpR (op_eqD hr.units) (pe_op op_mod (pe_callTy call_int1 (by rfl) g_int (by decide +kernel) (pa_cons (pe_ix ix_seq (pv 1) pe_int (fun _ _ => rfl)) pa_nil)) pe_int) pe_int (nomark _)))))) (pss_one (ps_expr (u_call h__law_can tk hr (by first | decide | omega) rfl (pa_cons (pv 3) (pa_cons pe_str pa_nil))))) pss_nil)
    (pss_cons (ps_set (i := 5) sc.nd rfl (Or.inl rfl) (u_call h__law_told tk hr (by first | decide | omega) rfl (pa_cons (pv 3) pa_nil)))
    (pss_cons (ps_set (i := 6) sc.nd rfl (Or.inl rfl) (u_call h__law_ways tk hr (by first | decide | omega) rfl (pa_cons (pv 3) pa_nil)))
    (pss_cons (ps_if (pt_cmpR (op_neD hr.units) (u_call h__law_told tk hr (by first | decide | omega) rfl (pa_cons (pv 3) pa_nil)) (pv 5) (nomark _)) (pss_one (ps_ret pe_bl)) pss_nil)
    (pss_cons (ps_set (i := 7) sc.nd rfl (Or.inl rfl) (pv 5))
    (pss_cons (ps_set (i := 8) sc.nd rfl (Or.inl rfl) (pe_lst pa_nil))
    (pss_cons (ps_set (i := 9) sc.nd rfl (Or.inl rfl) (pe_lst (pa_cons (pv 5) pa_nil)))
    (pss_cons (ps_set (i := 10) sc.nd rfl (Or.inl rfl) pe_non)
    (pss_cons (ps_for po rfl (pi_range1 (by rfl) g_range (pa_cons (pe_op op_mod (pe_callTy call_int1 (by rfl) g_int (by decide +kernel) (pa_cons (pe_ix ix_seq (pv 1) pe_int (fun _ _ => rfl)) pa_nil)) pe_int) pa_nil)) (pg_name (i := 4) sc.nd rfl (Or.inl rfl)) (pss_cons (ps_set (i := 11) sc.nd rfl (Or.inl rfl) (u_call h__law_deed tk hr (by first | decide | omega) rfl (pa_cons (pv 7) (pa_cons (pv 1) (pa_cons (pe_op u_add pe_int (pe_op op_mulW pe_int (pv 4))) pa_nil)))))
    (pss_cons (ps_set (i := 12) sc.nd rfl (Or.inl rfl) (u_call h__law_behind tk hr (by first | decide | omega) rfl (pa_cons (pv 7) (pa_cons (pv 11) pa_nil))))
    (pss_cons (ps_if (pt_cmpR (op_eqD hr.units) (pe_op op_mod (pe_callTy call_int1 (by rfl) g_int (by decide +kernel) (pa_cons (pe_ix ix_seq (pv 1) (pe_op u_add pe_int (pe_op op_mulW pe_int (pv 4))) (fun _ _ => rfl)) pa_nil)) pe_int) pe_int (nomark _)) (pss_one (ps_expr (pe_bm PySem.F.plainAttrs_list PySem.F.slot_list_append PySem.F.type_list_append mt_append (pv 8) (pa_cons (pe_tup (pa_cons pe_str (pa_cons (pe_lst (pa_cons (pv 11) pa_nil)) pa_nil))) pa_nil)))) (pss_one (ps_expr (pe_bm PySem.F.plainAttrs_list PySem.F.slot_list_append PySem.F.type_list_append mt_append (pv 8) (pa_cons (pv 11) pa_nil)))))
    (pss_one (ps_if (PW.pt (pw_and (pt_cmpR op_isN (pv 10) pe_non (nomark _)) (pw_and1 (pt_cmpR (op_eqD hr.units) (pe_callB u_len (by rfl) g_len (by decide +kernel) (pa_cons (pv 12) pa_nil)) pe_int (nomark _))))) (pss_one (ps_set (i := 10) sc.nd rfl (Or.inl rfl) (pv 12))) (pss_one (ps_if (pt_cmpR op_isN (pv 10) pe_non (nomark _)) (pss_cons (ps_set (i := 7) sc.nd rfl (Or.inl rfl) (pv 12))
    (pss_one (ps_expr (pe_bm PySem.F.plainAttrs_list PySem.F.slot_list_append PySem.F.type_list_append mt_append (pv 9) (pa_cons (pv 12) pa_nil))))) pss_nil))))))))
    (pss_cons (ps_if (pt_cmpR (op_eqD hr.units) (pe_op op_mod (pe_callTy call_int1 (by rfl) g_int (by decide +kernel) (pa_cons (pe_ix ix_seq (pv 1) pe_int (fun _ _ => rfl)) pa_nil)) pe_int) pe_int (nomark _)) (pss_one (ps_set (i := 8) sc.nd rfl (Or.inl rfl) (pe_lst (pa_cons (pe_tup (pa_cons pe_str (pa_cons (pv 8) pa_nil))) pa_nil)))) pss_nil)
    (pss_cons (ps_set (i := 13) sc.nd rfl (Or.inl rfl) (pe_callB (cr_repr hA (u65 hr)) (by rfl) g_repr (by decide +kernel) (pa_cons (pv 8) pa_nil)))
    (pss_cons (ps_if (PW.pt (pw_or (pt_cmpR (op_neD hr.units) (u_call h__law_all tk hr (by first | decide | omega) rfl (pa_cons (pv 3) (pa_cons (pv 8) pa_nil))) (pv 10) (nomark _)) (pw_or1 (pt_cmpR op_ne (pe_callB (cr_repr hA (u65 hr)) (by rfl) g_repr (by decide +kernel) (pa_cons (pv 8) pa_nil)) (pv 13) (nomark _))))) (pss_one (ps_ret pe_bl)) pss_nil)
    (pss_cons (ps_if (pt_cmpR op_notN (pv 10) pe_non (nomark _)) (pss_one (ps_ret (pe_and (pe_cmpR (op_eqD hr.units) (u_call h__law_told tk hr (by first | decide | omega) rfl (pa_cons (pv 3) pa_nil)) (pv 5) (nomark _)) (pe_one (pe_cmpR (op_eqD hr.units) (u_call h__law_ways tk hr (by first | decide | omega) rfl (pa_cons (pv 3) pa_nil)) (pv 6) (nomark _)))))) pss_nil)
    (pss_cons (ps_if (pt_cmpR (op_neD hr.units) (u_call h__law_told tk hr (by first | decide | omega) rfl (pa_cons (pv 3) pa_nil)) (pv 7) (nomark _)) (pss_one (ps_ret pe_bl)) pss_nil)
    (pss_cons (ps_for po rfl (pi_U (pe_slice u_sl (pe_revL (pv 9)) (po_some pe_int) po_none)) (pg_name (i := 14) sc.nd rfl (Or.inl rfl)) (pss_cons (ps_expr (u_meth0 m_Desk_undo tk hr (by first | decide | omega) (pv 3)))
    (pss_one (ps_if (pt_cmpR (op_neD hr.units) (u_call h__law_told tk hr (by first | decide | omega) rfl (pa_cons (pv 3) pa_nil)) (pv 14) (nomark _)) (pss_one (ps_ret pe_bl)) pss_nil))))
    (pss_one (ps_ret (pe_cmpR (op_eqD hr.units) (pe_ix ix_seq (u_call h__law_ways tk hr (by first | decide | omega) rfl (pa_cons (pv 3) pa_nil)) pe_int (fun _ _ => rfl)) (pe_ix ix_seq (pv 6) pe_int (fun _ _ => rfl)) (nomark _))))))))))))))))))))))), ?_⟩
  try simp only [show (cx P w K mg base N_law "law" s_law f cdv A outer s H E).K = K from rfl, show (cx P w K mg base N_law "law" s_law f cdv A outer s H E).prog = P from rfl, show (cx P w K mg base N_law "law" s_law f cdv A outer s H E).w = w from rfl]
  clear tk po sc
  · rintro ds r ⟨xs, rfl, hx, rfl⟩
    simp only [start0, List.map_cons, List.map_nil, List.length_cons, List.length_nil, Nat.reduceAdd, Nat.reduceSub, List.reduceReplicate, List.cons_append, List.nil_append]
    have hnl := numsM_len xs 120
    have hnb := numsM_bd xs 120
    refine sv_seq (sv_setV (ev_call (ds := [.lst (xs.map D.int), .int 120]) (by walk_at "dv") (by walk_at "dt") ⟨xs, 120, rfl, hx, by decide, rfl⟩) .st (thn_nx (sv_seq ?_)))
    generalize numsM xs 120 = ns at *
    dsimp only [List.set]
    have hs0 := partsM_solid (ns := ns) (at' := 0) (most := 6) (by decide) hnb
    refine sv_setV (ev_call (ds := [.lst (ns.map D.int), .int 0, .int 6]) (by walk_at "dv") (by walk_at "dt") ⟨ns, 0, 6, rfl, by omega, by decide, rfl⟩) .st (thn_nx (sv_seq ?_))
    generalize partsM ns 0 6 = s0 at *
    dsimp only [List.set, Sk.d]
    have hg0 := hs0.good
    have hlen0 := hs0.fine.len
    have hmk := Sk.mk_id hs0.so
    refine sv_setI (ev_make (av_cons (ev_make (av_cons (by walk_at "dv") (av_cons (by walk_at "dv") (av_cons (by walk_at "dv") av_nil))) (.cons .st (.cons .st (.cons .st .nil))) (R_Sky_init_ok (s := s0) (.inl rfl) hg0.l3 hg0.cs (by omega) hs0.ok)) av_nil) (.cons .fi .nil) ⟨s0.mk', rfl, rfl, rfl, rfl⟩) (Nat.le_of_ble_eq_true rfl) (by decide) (thn_nx (sv_seq ?_))
    rw [hmk]
    dsimp only [List.set]
    have hix : ∀ (i : Int) (j : Nat), i = j → j < ns.length → atI (ns.map D.int) i = some (.int (ns.getD j 0)) := fun i j e h => by
      subst e
      have := atI_map D.int (0 : Int) (n := (j : Int)) (xs := ns) (by omega) (by omega)
      rw [Int.toNat_natCast] at this
      exact this
    have hmax : (2 : Nat) ^ 62 ≤ 2 ^ 400000 := Nat.pow_le_pow_right (by decide) (by decide)
    have sl : sizeLine = 16777216 := sizeLine_eq
    have tell : ∀ (d : Dk) (ρ : List Sl), ρ[3]? = some (Sl.ow (.ins cD (d.fs cS))) → EE K (tCallS (spM K cD (R_told cS)) (WE (wE E)) (tCons (tVar 3) tNil)) ρ d.st.d (ρ.set 3 (Sl.ow (.ins cD (d.fs cS)))) := fun d ρ h => ee_callO h av_nil .nil ⟨d, rfl, rfl, rfl, rfl⟩
    have ways : ∀ (d : Dk) (ρ : List Sl), d.past.length ≤ 39 → d.fut.length ≤ 39 → ρ[3]? = some (Sl.ow (.ins cD (d.fs cS))) → EE K (tCallS (spM K cD (R_ways cS)) (WE (wE E)) (tCons (tVar 3) tNil)) ρ (waysD d) (ρ.set 3 (Sl.ow (.ins cD (d.fs cS)))) := fun d ρ h1 h2 h => ee_callO h av_nil .nil ⟨d, rfl, rfl, h1, h2, rfl, rfl⟩
    -- three changes
    refine sv_forR1 (fun i ρ => ∃ (d : Dk) (s4 : Sl), ρ = [.im (.lst (xs.map D.int)), .im (.lst (ns.map D.int)), .im s0.d, .ow (.ins cD (d.fs cS)), s4, .un, .un, .un, .un, .un, .un, .un, .un, .un, .un] ∧ Dal s0.side i d) ev_int (by decide) ⟨⟨s0, [], [], .tup []⟩, _, rfl, ⟨⟨hs0, rfl⟩, (fun s h => by cases h), (fun s h => by cases h), Nat.le_refl _⟩⟩ ?_ ?_
    · rintro i ρ1 hi ⟨d, s4, rfl, hall⟩
      refine ⟨_, g1_name, ?_⟩
      dsimp only [List.set]
      have m1 : CMulW 5 (i : Int) := mulW_of (Nat.lt_of_lt_of_le (by decide : _ < 2 ^ 62) hmax) (Nat.lt_of_lt_of_le (by omega : _ < 2 ^ 62) hmax)
      obtain ⟨⟨hst, hside⟩, hpa, hfu, hln⟩ := hall
      have hsm := deedM_sm d.st ns (30 + 5 * i)
      have ed : D.tup [.int s0.side, .lst (d.st.kss.map tupD), d.st.cam.d] = d.st.d := by rw [← hside]; rfl
      have hdeed : R_deed [.tup [.int s0.side, .lst (d.st.kss.map tupD), d.st.cam.d], .lst (ns.map D.int), .int (30 + 5 * (i : Int))] (.ret (deedM d.st ns (30 + 5 * i)).d) := by
        rw [ed]
        exact ⟨d.st, ns, 30 + 5 * i, by simp, hst.fine, by omega, rfl⟩
      have sky : ∀ ρ : List Sl, ρ[3]? = some (Sl.ow (.ins cD (d.fs cS))) → EE K (tMethW cD (Str.ofString "sky_now") (spM K cD (R_sky_now cS)) (WE (wE E)) (tVar 3) tNil) ρ (.ins cS d.st.fs) (ρ.set 3 (Sl.ow (.ins cD (d.fs cS)))) := fun ρ h => ee_methO h rfl av_nil .nil ⟨d, rfl, rfl, rfl, rfl⟩
      have arg := ee_callFE (K := K) (E := WE (wE E)) (ρ := [.im (.lst (xs.map D.int)), .im (.lst (ns.map D.int)), .im s0.d, .ow (.ins cD (d.fs cS)), .im (.int i), .un, .un, .un, .un, .un, .un, .un, .un, .un, .un])
        (ea_cons (ee_tupE (ea_cons (ee_of (ev_op (ev_var (i := 2) rfl) ev_int (ix_tup (i := 0) rfl)) .st) (ea_cons (ee_cbE (ea_cons (ee_propE (E := E0) (sky _ rfl) R_Sky_stars_mk) ea_nil) list_tup .fr) (ea_cons (ee_propE (E := E0) (sky _ rfl) R_Sky_camera_mk) ea_nil))) (Nat.le_of_ble_eq_true rfl))
          (ea_cons (ee_of (ev_var (i := 1) rfl) .st) (ea_cons (ee_of (ev_op ev_int (ev_op ev_int (ev_var (i := 4) rfl) (mul_int m1)) add_int) .st) ea_nil))) hdeed
      generalize deedM d.st ns (30 + 5 * i) = dd at *
      have hpl : d.past.length ≤ 1000 := by omega
      cases hb : behM d.st dd with
      | ok s' =>
        have hs' := behM_ok hst hsm hb
        have hd' := (behM_side hb).trans hside
        refine sv_drop (ee_callE (i := 3) rfl (ea_cons arg ea_nil) rfl ⟨d, dd, rfl, rfl, hst, hsm, hpl, .inl ⟨s', hb, rfl, rfl⟩⟩) ?_
        dsimp only [List.set]
        exact ⟨d.push s', _, rfl, ⟨hs', hd'⟩, fun s hs => (List.mem_append.mp hs).elim (hpa s) (fun e => by rw [List.mem_singleton.mp e]; exact ⟨hst, hside⟩), (fun s hs => by cases hs), by show (d.past ++ [d.st]).length + 0 ≤ i + 1; rw [List.length_append]; show _ + 1 + 0 ≤ _; omega⟩
      | no wd v =>
        refine sv_drop (ee_callE (i := 3) rfl (ea_cons arg ea_nil) rfl ⟨d, dd, rfl, rfl, hst, hsm, hpl, .inr ⟨wd, v, hb, rfl, rfl⟩⟩) ?_
        dsimp only [List.set]
        exact ⟨d, _, rfl, ⟨hst, hside⟩, hpa, hfu, by omega⟩
    rintro ρ1 ⟨d, s4, rfl, hall⟩
    have e3 : (3 : Int).toNat = 3 := rfl
    rw [e3] at hall
    have hside4 := hs0.fine.s0
    refine thn_nx (sv_seq (sv_imp (P := fun o => ∃ d : Dk, o = .nx [.im (.lst (xs.map D.int)), .im (.lst (ns.map D.int)), .im s0.d, .ow (.ins cD (d.fs cS)), s4, .un, .un, .un, .un, .un, .un, .un, .un, .un, .un] ∧ Dal s0.side 3 d) ?_ ?_))
    · have i50 := hix 50 50 rfl (by omega)
      obtain ⟨st, past, fut, bl⟩ := d
      obtain ⟨hst, hpa, hfu, hln⟩ := hall
      dsimp only at hst hpa hfu hln
      by_cases c1 : decide (ns.getD 50 0 % 2 = 1) = true
      · have t1 : ∀ ρ : List Sl, ρ[1]? = some (Sl.im (.lst (ns.map D.int))) → TE' K (tTest (tOp (rEqD K) (tOp (rI (fun _ j => 0 < j) fun i j => .int (i % j)) (tCB rIntU (tCons (tOp (rIx K) (tVar 1) (tC (.int 50))) tNil)) (tC (.int 2))) (tC (.int 1)))) ρ true ρ := fun ρ h =>
          te_of (tv_is (tv_test (ev_op (ev_op (ev_cb (av_cons (ev_op (ev_var h) ev_int (ix_lst .st i50)) av_nil) int_int) ev_int (mod_int (by decide))) ev_int eq_int)) c1)
        rcases List.eq_nil_or_concat past with rfl | ⟨ps, s', rfl⟩
        · refine sv_ifE (k := false) (te_and (t1 _ rfl) (fun _ => te_and (te_truB (ee_callO rfl (av_cons ev_str av_nil) (.cons .st .nil) ⟨⟨st, [], fut, bl⟩, rfl, by show fut.length ≤ 1000; omega, by show 0 ≤ 1000; decide, .inl ⟨rfl, .inl ⟨rfl, rfl, rfl⟩⟩⟩)) (fun z => nomatch z) (fun _ => ⟨rfl, rfl⟩)) (fun z => nomatch z)) (fun z => nomatch z) ?_
          intro _
          exact sv_next ⟨⟨st, [], fut, bl⟩, rfl, hst, hpa, hfu, hln⟩
        · rw [List.concat_eq_append] at *
          rw [List.length_append] at hln
          simp only [List.length_cons, List.length_nil] at hln
          have hd1 : Dal s0.side 3 ⟨s', ps, st :: fut, bl⟩ := ⟨hpa s' (List.mem_append_right _ List.mem_cons_self), fun s hs => hpa s (List.mem_append_left _ hs), fun s hs => (List.mem_cons.mp hs).elim (fun e => by rw [e]; exact hst) (hfu s), by show ps.length + (fut.length + 1) ≤ 3; omega⟩
          have t3 : ∀ (c : Bool) (ρ : List Sl), decide (ns.getD 50 0 % 4 = 3) = c → ρ[1]? = some (Sl.im (.lst (ns.map D.int))) → TE' K (tTest (tOp (rEqD K) (tOp (rI (fun _ j => 0 < j) fun i j => .int (i % j)) (tCB rIntU (tCons (tOp (rIx K) (tVar 1) (tC (.int 50))) tNil)) (tC (.int 4))) (tC (.int 3)))) ρ c ρ := fun c ρ e h =>
            te_of (tv_is (tv_test (ev_op (ev_op (ev_cb (av_cons (ev_op (ev_var h) ev_int (ix_lst .st i50)) av_nil) int_int) ev_int (mod_int (by decide))) ev_int eq_int)) e)
          have can1 := fun (ρ : List Sl) (h : ρ[3]? = some (Sl.ow (.ins cD (Dk.fs cS ⟨st, ps ++ [s'], fut, bl⟩)))) => ee_callO (K := K) (E := WE (wE E)) h (av_cons (ev_str (i := "undo")) av_nil) (.cons .st .nil) (show R_can cS _ [.str "undo"] (.ret (.bl true)) (Dk.fs cS ⟨s', ps, st :: fut, bl⟩) from ⟨⟨st, ps ++ [s'], fut, bl⟩, rfl, by show fut.length ≤ 1000; omega, by show (ps ++ [s']).length ≤ 1000; rw [List.length_append]; show _ + 1 ≤ _; omega, .inl ⟨rfl, .inr ⟨ps, s', rfl, rfl, rfl⟩⟩⟩)
          cases c3 : decide (ns.getD 50 0 % 4 = 3) with
          | true =>
            refine sv_ifE (k := true) (te_and (t1 _ rfl) (fun _ => te_and (te_truB (can1 _ rfl)) (fun _ => t3 true _ c3 rfl) (fun z => nomatch z)) (fun z => nomatch z)) ?_ (fun z => nomatch z)
            intro _
            dsimp only [List.set]
            obtain ⟨k1, k2, k3, k4⟩ := hd1
            dsimp only at k1 k2 k3 k4
            rcases List.eq_nil_or_concat ps with rfl | ⟨ps2, s2, rfl⟩
            · refine sv_drop (ee_callO rfl (av_cons ev_str av_nil) (.cons .st .nil) ⟨⟨s', [], st :: fut, bl⟩, rfl, by show (st :: fut).length ≤ 1000; omega, by show 0 ≤ 1000; decide, .inl ⟨rfl, .inl ⟨rfl, rfl, rfl⟩⟩⟩) ?_
              exact ⟨_, rfl, k1, k2, k3, k4⟩
            · rw [List.concat_eq_append] at *
              rw [List.length_append] at k4
              simp only [List.length_cons, List.length_nil] at k4
              refine sv_drop (ee_callO rfl (av_cons ev_str av_nil) (.cons .st .nil) ⟨⟨s', ps2 ++ [s2], st :: fut, bl⟩, rfl, by show (st :: fut).length ≤ 1000; rw [List.length_cons]; omega, by show (ps2 ++ [s2]).length ≤ 1000; rw [List.length_append]; show _ + 1 ≤ _; omega, .inl ⟨rfl, .inr ⟨ps2, s2, rfl, rfl, rfl⟩⟩⟩) ?_
              exact ⟨⟨s2, ps2, s' :: st :: fut, bl⟩, rfl, k2 s2 (List.mem_append_right _ List.mem_cons_self), fun s hs => k2 s (List.mem_append_left _ hs), fun s hs => (List.mem_cons.mp hs).elim (fun e => by rw [e]; exact k1) (k3 s), by show ps2.length + (fut.length + 1 + 1) ≤ 3; omega⟩
          | false =>
            refine sv_ifE (k := false) (te_and (t1 _ rfl) (fun _ => te_and (te_truB (can1 _ rfl)) (fun _ => t3 false _ c3 rfl) (fun z => nomatch z)) (fun z => nomatch z)) (fun z => nomatch z) ?_
            intro _
            exact sv_next ⟨_, rfl, hd1⟩
      · have c1' : decide (ns.getD 50 0 % 2 = 1) = false := by simpa using c1
        refine sv_ifE (k := false) (te_and (te_of (tv_is (tv_test (by walk_at "dv")) c1')) (fun z => nomatch z) (fun _ => ⟨rfl, rfl⟩)) (fun z => nomatch z) ?_
        intro _
        exact sv_next ⟨⟨st, past, fut, bl⟩, rfl, hst, hpa, hfu, hln⟩
    rintro o ⟨d, rfl, hall⟩
    refine sv_seq (sv_set (tell d _ rfl) (thn_nx (sv_seq ?_)))
    dsimp only [List.set]
    obtain ⟨⟨hst, hside⟩, hpa, hfu, hln⟩ := hall
    have w1 : d.past.length ≤ 39 := by omega
    have w2 : d.fut.length ≤ 39 := by omega
    refine sv_set (ways d _ w1 w2 rfl) (thn_nx (sv_seq ?_))
    dsimp only [List.set]
    refine sv_ifE (te_test (ee_op1 (tell d _ rfl) (ev_var rfl) (ne_dat .st .st (eqok_skd _) (eqok_skd _)))) ?_ ?_
    · intro h
      rw [eqD_skd] at h
      cases h
    intro _
    refine sv_next (thn_nx (sv_seq ?_))
    dsimp only [List.set]
    refine sv_setV (ev_var rfl) .st (thn_nx (sv_seq ?_))
    dsimp only [List.set]
    refine sv_setF (by walk_at "dv") (Nat.le_of_ble_eq_true rfl) (thn_nx (sv_seq ?_))
    dsimp only [List.set]
    refine sv_setF (by walk_at "dv") (Nat.le_of_ble_eq_true rfl) (thn_nx (sv_seq ?_))
    dsimp only [List.set]
    refine sv_setV ev_non .st (thn_nx (sv_seq ?_))
    dsimp only [List.set]
    have i51 := hix 51 51 rfl (by omega)
    have k0 := Int.emod_nonneg (ns.getD 51 0) (show (7 : Int) ≠ 0 by decide)
    have k7 := Int.emod_lt_of_pos (ns.getD 51 0) (show (0 : Int) < 7 by decide)
    refine sv_forR1 (fun i ρ => ∃ (st : Sk) (X : List D) (S : List Sk) (due : Option (Str × D)) (t4 s11 s12 : Sl), ρ = LawU xs ns s0 cD cS d t4 st X S due s11 s12 ∧ Sof s0.side st ∧ X.length = i ∧ (∀ x ∈ X, Rp 6 9100 x) ∧ 1 ≤ S.length ∧ S.length ≤ i + 1 ∧
        (match due with
          | none => ∃ d1 : Dk, d1.st = st ∧ (∀ RA', Chn cS (RMg cS cI cU cT cM RA') (inner d) X (.ret .non) d1) ∧ d1.past ++ [d1.st] = d.past ++ S ∧ d1.fut.length ≤ 3
          | some (wd, v) => (wd = "taken" ∨ wd = "star" ∨ wd = "motion" ∨ (wd = "sky" ∧ v = .non)) ∧ Ed 3 (.tup [.str wd, v]) ∧ ∀ RA', ∃ d1, Chn cS (RMg cS cI cU cT cM RA') (inner d) X (excR cI cU cT cM wd v) d1)) (by walk_at "dv") ⟨by omega, by omega⟩
      ⟨d.st, [], [d.st], none, _, _, _, rfl, ⟨hst, hside⟩, rfl, (fun x h => by cases h), Nat.le_refl _, Nat.le_refl _, inner d, rfl, fun _ => .nil _, rfl, by show d.fut.length ≤ 3; omega⟩ ?_ ?_
    · rintro i ρ1 hi ⟨st, X, S, due, t4, s11, s12, rfl, ⟨hs1, hs2⟩, hX, hXr, hS1, hS, hdue⟩
      refine ⟨_, g1_name, ?_⟩
      dsimp only [List.set]
      have m1 : CMulW 6 (i : Int) := mulW_of (Nat.lt_of_lt_of_le (by decide : _ < 2 ^ 62) hmax) (Nat.lt_of_lt_of_le (by omega : _ < 2 ^ 62) hmax)
      have ec : (52 : Int) + 6 * (i : Int) = ((52 + 6 * i : Nat) : Int) := by omega
      refine sv_seq (sv_setV (ev_call (ds := [st.d, .lst (ns.map D.int), .int (52 + 6 * (i : Int))]) (av_cons (ev_var rfl) (av_cons (by walk_at "dv") (av_cons (by walk_at "dv") av_nil))) (.cons .st (.cons .st (.cons .st .nil))) ⟨st, ns, 52 + 6 * i, by rw [ec], hs1.fine, by omega, rfl⟩) .st (thn_nx (sv_seq ?_)))
      have hsm := deedM_sm st ns (52 + 6 * i)
      have hrp := deed_rp (s := st) (ns := ns) (at' := 52 + 6 * i) hs1.fine
      generalize deedM st ns (52 + 6 * i) = dd at *
      dsimp only [List.set]
      refine sv_setV (ev_call (ds := [st.d, dd.d]) (av_cons (ev_var rfl) (av_cons (ev_var rfl) av_nil)) (.cons .st (.cons .st .nil)) ⟨st, dd, rfl, hs1.fine, hsm, rfl⟩) .st (thn_nx (sv_seq ?_))
      dsimp only [List.set]
      have i57 := hix (57 + 6 * i) (57 + 6 * i) (by omega) (by omega)
      -- the change joins the list, in one of two ways
      refine sv_imp (P := fun o => ∃ wr : Bool, o = .nx (LawU xs ns s0 cD cS d (.im (.int i)) st (X ++ [eltD dd wr]) S due (.im dd.d) (.im (behM st dd).d))) ?_ ?_
      · refine sv_if (by walk_at "dv") ?_ ?_
        · intro _
          refine sv_drop (ee_append (i := 8) (ds0 := X) (ds := X) rfl (ee_of (ev_tup (av_cons ev_str (av_cons (ev_lst (av_cons (ev_var (i := 11) rfl) av_nil) (.cons .st .nil) (Nat.le_of_ble_eq_true rfl)) av_nil)) (.cons .st (.cons .fr .nil)) (Nat.le_of_ble_eq_true rfl)) .st) rfl (by rw [sl]; omega)) ?_
          exact ⟨true, rfl⟩
        · intro _
          refine sv_drop (ee_append (i := 8) (ds0 := X) (ds := X) rfl (ee_of (ev_var (i := 11) rfl) .st) rfl (by rw [sl]; omega)) ?_
          exact ⟨false, rfl⟩
      rintro o ⟨wr, rfl⟩
      have hX' : (X ++ [eltD dd wr]).length = i + 1 := by rw [List.length_append, hX]; rfl
      have hXr' : ∀ x ∈ X ++ [eltD dd wr], Rp 6 9100 x := fun x hx => by
        rcases List.mem_append.mp hx with hx | hx
        · exact hXr x hx
        · rw [List.mem_singleton.mp hx]
          cases wr with
          | false => exact hrp.mono (by decide) (by decide)
          | true => exact ((Rps.nil.cons ((Rps.nil.cons hrp).lst)).cons ((Rp.str (s := "all") (m := 3) (by decide +kernel) (by decide +kernel) (by decide +kernel)).mono (by decide) (Nat.le_refl _))).tup.mono (by decide) (by decide)
      show SV K _ _ _ _
      cases due with
      | none =>
        obtain ⟨d1, rfl, hch, hps, hf1⟩ := hdue
        have hpl : d1.past.length ≤ 1000 := by
          have := congrArg List.length hps
          rw [List.length_append, List.length_append] at this
          simp only [List.length_cons, List.length_nil] at this
          omega
        cases hb : behM d1.st dd with
        | ok s' =>
          have hs' := behM_ok hs1 hsm hb
          have hsd' := (behM_side hb).trans hs2
          refine sv_if (tv_and (c := true) (tv_test (ev_op (ev_var rfl) ev_non (is_non (by intro z; cases z)))) (fun _ => tv_test (ev_op (ev_cb (av_cons (ev_var rfl) av_nil) len_tup) ev_int eq_int))) (fun z => absurd z (by simp)) ?_
          intro _
          refine sv_if (tv_test (ev_op (ev_var rfl) ev_non (is_non (by intro z; cases z)))) ?_ (fun z => nomatch z)
          intro _
          refine sv_seq (sv_setV (ev_var rfl) .st (thn_nx ?_))
          dsimp only [List.set]
          refine sv_drop (ee_append (i := 9) (ds0 := S.map Sk.d) (ds := S.map Sk.d) rfl (ee_of (ev_var (i := 12) rfl) .st) rfl (by rw [List.length_map, sl]; omega)) ?_
          dsimp only [List.set]
          refine ⟨s', X ++ [eltD dd wr], S ++ [s'], none, .im (.int i), .im dd.d, .im s'.d, ?_, ⟨hs', hsd'⟩, hX', hXr', by rw [List.length_append]; omega, by rw [List.length_append]; show _ + 1 ≤ _; omega, d1.push s', rfl, fun RA' => chn_snoc (hch RA') rfl (.step (rmg_ok hs1 hsm hpl hb wr) (.nil _)), ?_, by show 0 ≤ 3; decide⟩
          · dsimp only [LawU]
            rw [List.map_append]
            rfl
          · show d1.past ++ [d1.st] ++ [s'] = _
            rw [hps, List.append_assoc]
        | no wd v =>
          have hv := behM_no hb
          refine sv_if (tv_and (c := true) (tv_test (ev_op (ev_var rfl) ev_non (is_non (by intro z; cases z)))) (fun _ => tv_test (ev_op (ev_cb (av_cons (ev_var rfl) av_nil) len_tup) ev_int eq_int))) ?_ (fun z => absurd z (by simp))
          intro _
          refine sv_setV (ev_var rfl) .st ?_
          dsimp only [List.set]
          exact ⟨d1.st, X ++ [eltD dd wr], S, some (wd, v), _, _, _, rfl, ⟨hs1, hs2⟩, hX', hXr', hS1, by omega, behM_word hb, hv, fun RA' => ⟨d1, chn_snoc (hch RA') rfl (chn_stop (rmg_no hs1 hsm hpl hb wr))⟩⟩
      | some p =>
        obtain ⟨wd, v⟩ := p
        obtain ⟨hw, hv, hch⟩ := hdue
        refine sv_if (tv_and (c := false) (c' := false) (tv_test (ev_op (ev_var rfl) ev_non (is_non (by intro z; cases z)))) (fun z => nomatch z)) (fun z => nomatch z) ?_
        intro _
        refine sv_if (tv_test (ev_op (ev_var rfl) ev_non (is_non (by intro z; cases z)))) (fun z => nomatch z) ?_
        intro _
        refine sv_next ?_
        exact ⟨st, X ++ [eltD dd wr], S, some (wd, v), _, _, _, rfl, ⟨hs1, hs2⟩, hX', hXr', hS1, by omega, hw, hv, fun RA' => by
          obtain ⟨d1, h1⟩ := hch RA'
          exact ⟨d1, chn_more h1 (excR_exc _ _ _ _ _ _)⟩⟩
    rintro ρ1 ⟨st, X, S, due, t4, s11, s12, rfl, ⟨hs1, hs2⟩, hX, hXr, hS1, hS, hdue⟩
    have hX6 : X.length ≤ 6 := by omega
    have hS7 : S.length ≤ 7 := by omega
    clear hX hS
    refine thn_nx (sv_seq (sv_freeze 8 (ds := X) rfl ?_))
    dsimp only [List.set]
    have i100 := hix 100 100 rfl (by omega)
    refine sv_imp (P := fun o => ∃ wr : Bool, o = .nx (LawE xs ns s0 cD cS d t4 d st X wr S due s11 s12 .un .un)) ?_ ?_
    · refine sv_if (by walk_at "dv") ?_ ?_
      · intro _
        refine sv_setV (ev_lst (av_cons (ev_tup (av_cons ev_str (av_cons (ev_var (i := 8) rfl) av_nil)) (.cons .st (.cons .st .nil)) (Nat.le_of_ble_eq_true rfl)) av_nil) (.cons .st .nil) (Nat.le_of_ble_eq_true rfl)) .fr ?_
        exact ⟨true, rfl⟩
      · intro _
        exact sv_next ⟨false, rfl⟩
    rintro o ⟨wr, rfl⟩
    have hrp : Rp 9 60000 (.lst (wrapL wr X)) := by
      have h1 := (Rps.of hXr).lst
      have hm : X.length * (9100 + 1) ≤ 54606 := by omega
      cases wr with
      | false => exact h1.mono (by decide) (by omega)
      | true => exact ((Rps.nil.cons ((Rps.nil.cons (h1.mono (Nat.le_refl _) hm)).cons ((Rp.str (s := "all") (m := 3) (by decide +kernel) (by decide +kernel) (by decide +kernel)).mono (by decide) (Nat.le_refl _))).tup).lst).mono (by decide) (by decide)
    refine thn_nx (sv_seq (sv_setV (ev_cb (av_cons (ev_var rfl) av_nil) (repr_dat .st (.inl ⟨_, rfl⟩) hrp (by decide) (by decide))) .st (thn_nx (sv_seq ?_))))
    dsimp only [List.set]
    have hw6 := ed_ways d
    cases due with
    | none =>
      obtain ⟨d1, hd1, hch, hps, hf1⟩ := hdue
      subst hd1
      refine sv_ifE (k := false) (te_or (c := false) (te_test (ee_op1 (ee_callO rfl (av_cons (ev_var rfl) av_nil) (.cons .st .nil) (all_ok (d := d) hch wr)) (ev_var rfl) (ne_same .st .st eqok_non rfl))) (fun _ => te_of (tv_is (tv_test (ev_op (ev_cb (av_cons (ev_var rfl) av_nil) (repr_dat .st (.inl ⟨_, rfl⟩) hrp (by decide) (by decide))) (ev_var rfl) ne_strV)) (by simp))) (fun z => nomatch z)) (fun z => nomatch z) ?_
      intro _
      refine sv_next (thn_nx (sv_seq ?_))
      dsimp only [List.set]
      refine sv_if (tv_is (c' := false) (tv_test (ev_op (ev_var rfl) ev_non (isnot_non (by intro z; cases z)))) rfl) (fun z => nomatch z) ?_
      intro _
      refine sv_next (thn_nx (sv_seq ?_))
      refine sv_ifE (k := false) (te_test (ee_op1 (tell ⟨d1.st, d1.past, d1.fut, d.bl⟩ _ rfl) (ev_var rfl) (ne_same .st .st (eqok_skd _) (ed_skd _).f))) (fun z => nomatch z) ?_
      intro _
      refine sv_next (thn_nx (sv_seq ?_))
      dsimp only [List.set]
      have hS2 : (S.map Sk.d).reverse.length = S.length := by rw [List.length_reverse, List.length_map]
      have hpr : d1.st :: d1.past.reverse = S.reverse ++ d.past.reverse := by
        have := congrArg List.reverse hps
        rw [List.reverse_append, List.reverse_append] at this
        exact this
      refine sv_forUL (ds := (S.map Sk.d).reverse.drop 1) (fun i ρ => ∃ (d2 : Dk) (s14 : Sl), ρ = LawE xs ns s0 cD cS d t4 d2 d1.st X wr S none s11 s12 (.im (.str (py (.lst (wrapL wr X))).shown)) s14 ∧ d2.st :: d2.past.reverse = S.reverse.drop i ++ d.past.reverse ∧ d2.fut.length ≤ 3 + i)
        (ev_sl (ev_revL (ev_own (i := 9) rfl) .ls) (ov_some ev_int) ov_none (sl_sufL (k := 1) .fr (by omega))) .fr ⟨⟨d1.st, d1.past, d1.fut, d.bl⟩, _, rfl, hpr, hf1⟩ ?_ ?_
      · rintro i y ρ1 hy ⟨⟨x, past, fut, bl⟩, s14, rfl, hpx, hfx⟩
        refine ⟨_, g1_name, ?_⟩
        dsimp only [List.set]
        dsimp only at hpx hfx
        rw [← List.map_reverse, ← List.map_drop, List.getElem?_map] at hy
        obtain ⟨y', hy', rfl⟩ : ∃ y', (S.reverse.drop 1)[i]? = some y' ∧ y'.d = y := by
          cases h : (S.reverse.drop 1)[i]? with
          | none => rw [h] at hy; cases hy
          | some y' => rw [h] at hy; exact ⟨y', rfl, Option.some.inj hy⟩
        rw [List.getElem?_drop, Nat.add_comm] at hy'
        have hlt : i + 1 < S.reverse.length := by
          obtain ⟨h, _⟩ := List.getElem?_eq_some_iff.mp hy'
          exact h
        have hiS : i + 1 < S.length := by rw [List.length_reverse] at hlt; exact hlt
        rw [List.drop_eq_getElem_cons (by omega : i < S.reverse.length)] at hpx
        obtain ⟨e1, e2⟩ := List.cons.inj hpx
        have hd2 : S.reverse.drop (i + 1) = y' :: S.reverse.drop (i + 1 + 1) := by
          rw [List.drop_eq_getElem_cons hlt]
          congr 1
          rw [List.getElem?_eq_getElem hlt] at hy'
          exact Option.some.inj hy'
        rw [hd2] at e2
        obtain ⟨ps, rfl⟩ : ∃ ps, past = ps ++ [y'] := by
          refine ⟨(S.reverse.drop (i + 1 + 1) ++ d.past.reverse).reverse, ?_⟩
          rw [← List.reverse_reverse past, e2]
          simp
        have e3 : ps.reverse = S.reverse.drop (i + 1 + 1) ++ d.past.reverse := by
          rw [List.reverse_append] at e2
          exact (List.cons.inj e2).2
        refine sv_seq (sv_drop (ee_methO (i := 3) rfl rfl av_nil .nil ⟨⟨x, ps ++ [y'], fut, bl⟩, rfl, rfl, by show fut.length ≤ 1000; omega, .inr ⟨ps, y', rfl, rfl, rfl⟩⟩) (thn_nx ?_))
        dsimp only [List.set]
        refine sv_ifE (k := false) (te_test (ee_op1 (tell ⟨y', ps, x :: fut, bl⟩ _ rfl) (ev_var rfl) (ne_same .st .st (eqok_skd _) (ed_skd _).f))) (fun z => nomatch z) ?_
        intro _
        refine sv_next ?_
        refine ⟨⟨y', ps, x :: fut, bl⟩, _, rfl, ?_, by show fut.length + 1 ≤ _; omega⟩
        show y' :: ps.reverse = _
        rw [e3, hd2]
        rfl
      rintro ρ1 ⟨⟨x, past, fut, bl⟩, s14, rfl, hpx, hfx⟩
      dsimp only at hpx hfx
      have hlen : ((S.map Sk.d).reverse.drop 1).length = S.length - 1 := by rw [List.length_drop, hS2]
      rw [hlen] at hpx hfx
      have hpl : past.length = d.past.length := by
        have := congrArg List.length hpx
        rw [List.length_append, List.length_drop, List.length_reverse, List.length_reverse, List.length_cons, List.length_reverse] at this
        omega
      have hwy := ways ⟨x, past, fut, bl⟩ (LawE xs ns s0 cD cS d t4 ⟨x, past, fut, bl⟩ d1.st X wr S none s11 s12 (.im (.str (py (.lst (wrapL wr X))).shown)) s14) (by show past.length ≤ 39; omega) (by show fut.length ≤ 39; omega) rfl
      refine thn_nx (sv_ret (ee_op1 (ee_op1 hwy ev_int (ix_tup (i := 0) rfl)) (ev_op (ev_var rfl) ev_int (ix_tup (i := 0) rfl)) eq_int) ?_)
      have e : decide ((past.length : Int) = (d.past.length : Int)) = true := decide_eq_true (by rw [hpl])
      show Res.ret (D.bl true) = Res.ret (D.bl (decide ((past.length : Int) = (d.past.length : Int))))
      rw [e]
    | some p =>
      obtain ⟨wd, v⟩ := p
      obtain ⟨hw, hv, hch⟩ := hdue
      have hv' : Ed 3 (dueD (some (wd, v))) := hv
      refine sv_ifE (k := false) (te_or (c := false) (te_test (ee_op1 (ee_callO rfl (av_cons (ev_var rfl) av_nil) (.cons .st .nil) (all_no (d := d) hw hch wr)) (ev_var rfl) (ne_same .st .st (hv'.ok (by decide)) hv'.f))) (fun _ => te_of (tv_is (tv_test (ev_op (ev_cb (av_cons (ev_var rfl) av_nil) (repr_dat .st (.inl ⟨_, rfl⟩) hrp (by decide) (by decide))) (ev_var rfl) ne_strV)) (by simp))) (fun z => nomatch z)) (fun z => nomatch z) ?_
      intro _
      refine sv_next (thn_nx (sv_seq ?_))
      dsimp only [List.set]
      refine sv_if (tv_is (c' := true) (tv_test (ev_op (ev_var rfl) ev_non (isnot_non (by intro z; cases z)))) rfl) ?_ (fun z => nomatch z)
      intro _
      refine sv_ret (ee_andS (ee_op1 (tell d _ rfl) (ev_var rfl) (eq_same .st .st (eqok_skd _) (ed_skd _).f)) (ee_op1 (ways d _ w1 w2 rfl) (ev_var rfl) (eq_same .st .st (hw6.ok (by decide)) hw6.f))) rfl
  · rintro ds r ⟨xs, rfl, hx, rfl⟩
    rfl
end
end DL

set_option maxRecDepth 100000
set_option maxHeartbeats 400000
namespace DL
open PySem L2
section
variable {P : Program} {w : World} {K : Frag} {mg : Str → Option Value} {base : Heap} {cS cI cU cT cM cD cNU cNR cNB : Addr}
/-! the three levels of changes in a row -/
theorem f_all__z {f : Addr} {fd : FuncData} (F : Fun K "change_all" "Desk.change_all" s_Desk_change_all f fd) : FnOk P w K mg base (L2.CX P w) 6 f fd ["self", "deeds"] (spM K cD (fun _ _ _ _ => False)) := fn_never fun _ _ _ _ h => h
theorem f_make__0 {f : Addr} {fd : FuncData} (F : Fun K "make" "Desk.make" s_Desk_make f fd) (m_Desk_put_star : MthN P w K mg base 5 cD "put_star" (spM K cD (R_chg cS (R_with_star cS cI cT)))) (m_Desk_drop_star : MthN P w K mg base 6 cD "drop_star" (spM K cD (R_chg cS (R_without_star cS cI cU))))
    (m_Desk_set_camera : MthN P w K mg base 5 cD "set_camera" (spM K cD (R_chg cS (R_with_camera cS cI)))) (m_Desk_move_sky : MthN P w K mg base 5 cD "move_sky" (spM K cD (R_chg cS (R_moved cS cI cM)))) (m_Desk_change_all__z : MthN P w K mg base 6 cD "change_all" (spM K cD (fun _ _ _ _ => False))) :
    FnOk P w K mg base (L2.CX P w) 7 f fd ["self", "deed"] (spM K cD (RM0 cS cI cU cT cM)) := f_make (by decide) F m_Desk_put_star m_Desk_drop_star m_Desk_set_camera m_Desk_move_sky m_Desk_change_all__z
theorem f_all__0 {f : Addr} {fd : FuncData} (F : Fun K "change_all" "Desk.change_all" s_Desk_change_all f fd) (dk : DeskC K cD) (c_Desk : ClsN P w K mg base 1 "Desk" cD (spM K cD (R_Desk_init cS))) (m_Desk_make__0 : MthN P w K mg base 7 cD "make" (spM K cD (RM0 cS cI cU cT cM))) :
    FnOk P w K mg base (L2.CX P w) 8 f fd ["self", "deeds"] (spM K cD (RA0 cS cI cU cT cM)) := f_change_all (by decide) F dk c_Desk m_Desk_make__0
theorem f_make__1 {f : Addr} {fd : FuncData} (F : Fun K "make" "Desk.make" s_Desk_make f fd) (m_Desk_put_star : MthN P w K mg base 5 cD "put_star" (spM K cD (R_chg cS (R_with_star cS cI cT)))) (m_Desk_drop_star : MthN P w K mg base 6 cD "drop_star" (spM K cD (R_chg cS (R_without_star cS cI cU))))
    (m_Desk_set_camera : MthN P w K mg base 5 cD "set_camera" (spM K cD (R_chg cS (R_with_camera cS cI)))) (m_Desk_move_sky : MthN P w K mg base 5 cD "move_sky" (spM K cD (R_chg cS (R_moved cS cI cM)))) (m_Desk_change_all__0 : MthN P w K mg base 8 cD "change_all" (spM K cD (RA0 cS cI cU cT cM))) :
    FnOk P w K mg base (L2.CX P w) 9 f fd ["self", "deed"] (spM K cD (RM1 cS cI cU cT cM)) := f_make (by decide) F m_Desk_put_star m_Desk_drop_star m_Desk_set_camera m_Desk_move_sky m_Desk_change_all__0
theorem f_all__1 {f : Addr} {fd : FuncData} (F : Fun K "change_all" "Desk.change_all" s_Desk_change_all f fd) (dk : DeskC K cD) (c_Desk : ClsN P w K mg base 1 "Desk" cD (spM K cD (R_Desk_init cS))) (m_Desk_make__1 : MthN P w K mg base 9 cD "make" (spM K cD (RM1 cS cI cU cT cM))) :
    FnOk P w K mg base (L2.CX P w) 10 f fd ["self", "deeds"] (spM K cD (RA1 cS cI cU cT cM)) := f_change_all (by decide) F dk c_Desk m_Desk_make__1
theorem f_make__2 {f : Addr} {fd : FuncData} (F : Fun K "make" "Desk.make" s_Desk_make f fd) (m_Desk_put_star : MthN P w K mg base 5 cD "put_star" (spM K cD (R_chg cS (R_with_star cS cI cT)))) (m_Desk_drop_star : MthN P w K mg base 6 cD "drop_star" (spM K cD (R_chg cS (R_without_star cS cI cU))))
    (m_Desk_set_camera : MthN P w K mg base 5 cD "set_camera" (spM K cD (R_chg cS (R_with_camera cS cI)))) (m_Desk_move_sky : MthN P w K mg base 5 cD "move_sky" (spM K cD (R_chg cS (R_moved cS cI cM)))) (m_Desk_change_all__1 : MthN P w K mg base 10 cD "change_all" (spM K cD (RA1 cS cI cU cT cM))) :
    FnOk P w K mg base (L2.CX P w) 11 f fd ["self", "deed"] (spM K cD (RM2 cS cI cU cT cM)) := f_make (by decide) F m_Desk_put_star m_Desk_drop_star m_Desk_set_camera m_Desk_move_sky m_Desk_change_all__1
theorem f_all__2 {f : Addr} {fd : FuncData} (F : Fun K "change_all" "Desk.change_all" s_Desk_change_all f fd) (dk : DeskC K cD) (c_Desk : ClsN P w K mg base 1 "Desk" cD (spM K cD (R_Desk_init cS))) (m_Desk_make__2 : MthN P w K mg base 11 cD "make" (spM K cD (RM2 cS cI cU cT cM))) :
    FnOk P w K mg base (L2.CX P w) 12 f fd ["self", "deeds"] (spM K cD (RA2 cS cI cU cT cM)) := f_change_all (by decide) F dk c_Desk m_Desk_make__2
theorem f_lall_ {f : Addr} {fd : FuncData} (F : Fun K "_law_all" "_law_all" s__law_all f fd) (m_Desk_change_all__2 : MthN P w K mg base 12 cD "change_all" (spM K cD (RA2 cS cI cU cT cM)))
    (e_StarTaken : Ex1 P w K mg base 1 "StarTaken" cT "star") (e_UnknownStar : Ex1 P w K mg base 1 "UnknownStar" cU "number") (e_InvalidMotion : Ex1 P w K mg base 1 "InvalidMotion" cM "motion") (e_InvalidSky : Ex0 K mg "InvalidSky" cI) (xd : ExmD K cT cU cM cI) :
    FnOk P w K mg base (L2.CX P w) 13 f fd ["_law_desk", "_law_deeds"] (spM K cD (RL cS cI cU cT cM)) := f_lall (by decide) F m_Desk_change_all__2 e_StarTaken e_UnknownStar e_InvalidMotion e_InvalidSky xd
end
end DL

set_option maxRecDepth 100000
set_option maxHeartbeats 4000000
namespace DL
open PySem L2
abbrev s_UnknownStar___init__ : Stmt := inClass (top 7) 0
abbrev s_StarTaken___init__ : Stmt := inClass (top 8) 0
abbrev s_InvalidMotion___init__ : Stmt := inClass (top 6) 0
theorem law_in {K : Frag} {R : List D → Res → Prop} {H : Hp} {a : Addr} {ns : List Int} (hR : R [.lst (ns.map D.int)] (.ret (.bl true))) (hS : SqL K H a (ns.map V.int)) : spF K R [.ref a] H (fun v _ => v = .bl true) fun _ _ _ => False :=
  ⟨H, _, _, fun _ _ e => e, .cons (.lst hS (ints_reps ns)) .nil, hR, fun v G' H' _ r => by cases r; rfl⟩
theorem all_mk {P : Program} {w : World} {K : Frag} {h : Heap} {mg : Str → Option Value} (X : K.In h) (G : h.Ns mainGlobals mg) {fa : Addr} (hfa : mg "law" = some (.ref fa)) {cS cD cI cU N_UnknownStar cE_UnknownStar f_UnknownStar cda_UnknownStar cc_UnknownStar cT N_StarTaken cE_StarTaken f_StarTaken cda_StarTaken cc_StarTaken cM N_InvalidMotion cE_InvalidMotion f_InvalidMotion cda_InvalidMotion cc_InvalidMotion cNU cNR a_is_camera a_is_star a_is_motion a_moved_place a_Sky___init__ a_Sky_side p_Sky_side a_Sky_stars p_Sky_stars a_Sky_camera p_Sky_camera a_Sky_star_at a_Sky_with_star a_Sky_with_camera a_Sky_without_star a_Sky_moved a_Desk___init__ a_Desk_sky_now a_Desk_change_to a_Desk_put_star a_Desk_drop_star a_Desk_set_camera a_Desk_move_sky a_Desk_undo a_Desk_redo a__law_row a__law_numbers a__law_parts a__law_turn a__law_moved a__law_is_camera a__law_behind a__law_deed a__law_told a__law_do a__law_can a__law_ways a_law a_Desk_change_all a_Desk_make a__law_all : Addr} {dd_UnknownStar od_UnknownStar an_UnknownStar cdd_UnknownStar cld_UnknownStar dd_StarTaken od_StarTaken an_StarTaken cdd_StarTaken cld_StarTaken dd_InvalidMotion od_InvalidMotion an_InvalidMotion cdd_InvalidMotion cld_InvalidMotion od_is_camera an_is_camera od_is_star an_is_star od_is_motion an_is_motion od_moved_place an_moved_place od_Sky___init__ an_Sky___init__ od_Sky_side an_Sky_side od_Sky_stars an_Sky_stars od_Sky_camera an_Sky_camera od_Sky_star_at an_Sky_star_at od_Sky_with_star an_Sky_with_star od_Sky_with_camera an_Sky_with_camera od_Sky_without_star an_Sky_without_star od_Sky_moved an_Sky_moved od_Desk___init__ an_Desk___init__ od_Desk_sky_now an_Desk_sky_now od_Desk_change_to an_Desk_change_to od_Desk_put_star an_Desk_put_star od_Desk_drop_star an_Desk_drop_star od_Desk_set_camera an_Desk_set_camera od_Desk_move_sky an_Desk_move_sky od_Desk_undo an_Desk_undo od_Desk_redo an_Desk_redo od__law_row an__law_row od__law_numbers an__law_numbers od__law_parts an__law_parts od__law_turn an__law_turn od__law_moved an__law_moved od__law_is_camera an__law_is_camera od__law_behind an__law_behind od__law_deed an__law_deed od__law_told an__law_told od__law_do an__law_do od__law_can an__law_can od__law_ways an__law_ways od_law an_law od_Desk_change_all an_Desk_change_all od_Desk_make an_Desk_make od__law_all an__law_all : Option Addr} {osl_UnknownStar ccs_UnknownStar csl_UnknownStar osl_StarTaken ccs_StarTaken csl_StarTaken osl_InvalidMotion ccs_InvalidMotion csl_InvalidMotion sl_is_camera sl_is_star sl_is_motion sl_moved_place sl_Sky___init__ sl_Sky_side sl_Sky_stars sl_Sky_camera sl_Sky_star_at sl_Sky_with_star sl_Sky_with_camera sl_Sky_without_star sl_Sky_moved sl_Desk___init__ sl_Desk_sky_now sl_Desk_change_to sl_Desk_put_star sl_Desk_drop_star sl_Desk_set_camera sl_Desk_move_sky sl_Desk_undo sl_Desk_redo sl__law_row sl__law_numbers sl__law_parts sl__law_turn sl__law_moved sl__law_is_camera sl__law_behind sl__law_deed sl__law_told sl__law_do sl__law_can sl__law_ways sl_law sl_Desk_change_all sl_Desk_make sl__law_all : Array (Option Value)} {oc_UnknownStar dV_UnknownStar kV_UnknownStar dc_UnknownStar pm_UnknownStar ct_UnknownStar ccl_UnknownStar cl_UnknownStar oc_StarTaken dV_StarTaken kV_StarTaken dc_StarTaken pm_StarTaken ct_StarTaken ccl_StarTaken cl_StarTaken oc_InvalidMotion dV_InvalidMotion kV_InvalidMotion dc_InvalidMotion pm_InvalidMotion ct_InvalidMotion ccl_InvalidMotion cl_InvalidMotion oc_is_camera kV_is_camera dc_is_camera pm_is_camera cd_is_camera ct_is_camera oc_is_star kV_is_star dc_is_star pm_is_star cd_is_star ct_is_star oc_is_motion kV_is_motion dc_is_motion pm_is_motion cd_is_motion ct_is_motion oc_moved_place kV_moved_place dc_moved_place pm_moved_place cd_moved_place ct_moved_place oc_Sky___init__ kV_Sky___init__ dc_Sky___init__ pm_Sky___init__ cd_Sky___init__ ct_Sky___init__ oc_Sky_side kV_Sky_side dc_Sky_side pm_Sky_side cd_Sky_side ct_Sky_side oc_Sky_stars kV_Sky_stars dc_Sky_stars pm_Sky_stars cd_Sky_stars ct_Sky_stars oc_Sky_camera kV_Sky_camera dc_Sky_camera pm_Sky_camera cd_Sky_camera ct_Sky_camera oc_Sky_star_at kV_Sky_star_at dc_Sky_star_at pm_Sky_star_at cd_Sky_star_at ct_Sky_star_at oc_Sky_with_star kV_Sky_with_star dc_Sky_with_star pm_Sky_with_star cd_Sky_with_star ct_Sky_with_star oc_Sky_with_camera kV_Sky_with_camera dc_Sky_with_camera pm_Sky_with_camera cd_Sky_with_camera ct_Sky_with_camera oc_Sky_without_star kV_Sky_without_star dc_Sky_without_star pm_Sky_without_star cd_Sky_without_star ct_Sky_without_star oc_Sky_moved kV_Sky_moved dc_Sky_moved pm_Sky_moved cd_Sky_moved ct_Sky_moved oc_Desk___init__ kV_Desk___init__ dc_Desk___init__ pm_Desk___init__ cd_Desk___init__ ct_Desk___init__ oc_Desk_sky_now kV_Desk_sky_now dc_Desk_sky_now pm_Desk_sky_now cd_Desk_sky_now ct_Desk_sky_now oc_Desk_change_to kV_Desk_change_to dc_Desk_change_to pm_Desk_change_to cd_Desk_change_to ct_Desk_change_to oc_Desk_put_star kV_Desk_put_star dc_Desk_put_star pm_Desk_put_star cd_Desk_put_star ct_Desk_put_star oc_Desk_drop_star kV_Desk_drop_star dc_Desk_drop_star pm_Desk_drop_star cd_Desk_drop_star ct_Desk_drop_star oc_Desk_set_camera kV_Desk_set_camera dc_Desk_set_camera pm_Desk_set_camera cd_Desk_set_camera ct_Desk_set_camera oc_Desk_move_sky kV_Desk_move_sky dc_Desk_move_sky pm_Desk_move_sky cd_Desk_move_sky ct_Desk_move_sky oc_Desk_undo kV_Desk_undo dc_Desk_undo pm_Desk_undo cd_Desk_undo ct_Desk_undo oc_Desk_redo kV_Desk_redo dc_Desk_redo pm_Desk_redo cd_Desk_redo ct_Desk_redo oc__law_row kV__law_row dc__law_row pm__law_row cd__law_row ct__law_row oc__law_numbers kV__law_numbers dc__law_numbers pm__law_numbers cd__law_numbers ct__law_numbers oc__law_parts kV__law_parts dc__law_parts pm__law_parts cd__law_parts ct__law_parts oc__law_turn kV__law_turn dc__law_turn pm__law_turn cd__law_turn ct__law_turn oc__law_moved kV__law_moved dc__law_moved pm__law_moved cd__law_moved ct__law_moved oc__law_is_camera kV__law_is_camera dc__law_is_camera pm__law_is_camera cd__law_is_camera ct__law_is_camera oc__law_behind kV__law_behind dc__law_behind pm__law_behind cd__law_behind ct__law_behind oc__law_deed kV__law_deed dc__law_deed pm__law_deed cd__law_deed ct__law_deed oc__law_told kV__law_told dc__law_told pm__law_told cd__law_told ct__law_told oc__law_do kV__law_do dc__law_do pm__law_do cd__law_do ct__law_do oc__law_can kV__law_can dc__law_can pm__law_can cd__law_can ct__law_can oc__law_ways kV__law_ways dc__law_ways pm__law_ways cd__law_ways ct__law_ways oc_law kV_law dc_law pm_law cd_law ct_law oc_Desk_change_all kV_Desk_change_all dc_Desk_change_all pm_Desk_change_all cd_Desk_change_all ct_Desk_change_all oc_Desk_make kV_Desk_make dc_Desk_make pm_Desk_make cd_Desk_make ct_Desk_make oc__law_all kV__law_all dc__law_all pm__law_all cd__law_all ct__law_all : Value}
    {tk_MOST_STARS : Tok} {nm_UnknownStar q_UnknownStar : Str} {bs_UnknownStar sub_UnknownStar : List Value} {sn_UnknownStar : List Str} {ab_UnknownStar : Bool} {col_UnknownStar : Option Bool} {m0_UnknownStar m1_UnknownStar m2_UnknownStar m3_UnknownStar m5_UnknownStar : Option Value} {vs_UnknownStar : Array Value} {file_UnknownStar : Str} {tf_UnknownStar : Tok} {nm_StarTaken q_StarTaken : Str} {bs_StarTaken sub_StarTaken : List Value} {sn_StarTaken : List Str} {ab_StarTaken : Bool} {col_StarTaken : Option Bool} {m0_StarTaken m1_StarTaken m2_StarTaken m3_StarTaken m5_StarTaken : Option Value} {vs_StarTaken : Array Value} {file_StarTaken : Str} {tf_StarTaken : Tok} {nm_InvalidMotion q_InvalidMotion : Str} {bs_InvalidMotion sub_InvalidMotion : List Value} {sn_InvalidMotion : List Str} {ab_InvalidMotion : Bool} {col_InvalidMotion : Option Bool} {m0_InvalidMotion m1_InvalidMotion m2_InvalidMotion m3_InvalidMotion m5_InvalidMotion : Option Value} {vs_InvalidMotion : Array Value} {file_InvalidMotion : Str} {tf_InvalidMotion : Tok} {rs_Sky_side : List Value} {rs_Sky_stars : List Value} {rs_Sky_camera : List Value}
    (j_top : (P.main.scope.names.lookup ("super" : Str)).isSome = false)
    (aC_Sky : PySem.W.nsIn K mainGlobals "Sky" = some (some (.ref cS)))
    (pg_Sky : PySem.W.plainGet K cS Str.empty = true)
    (hd_Sky : PySem.W.hasDictIn K cS = true)
    (po_Sky : PySem.W.plainOver K cS = true)
    (sa_Sky : PySem.W.findIn K (.ref cS) "__setattr__" = some (some (.builtin "object.__setattr__")))
    (mk_Sky : PySem.W.makesIn K cS = true)
    (kc_Sky : PySem.W.keepIn K (.ref cS) = true)
    (n_Sky__side : PySem.W.findIn K (.ref cS) "_side" = some none)
    (n_Sky__stars : PySem.W.findIn K (.ref cS) "_stars" = some none)
    (n_Sky__camera : PySem.W.findIn K (.ref cS) "_camera" = some none)
    (aC_Desk : PySem.W.nsIn K mainGlobals "Desk" = some (some (.ref cD)))
    (pg_Desk : PySem.W.plainGet K cD Str.empty = true)
    (hd_Desk : PySem.W.hasDictIn K cD = true)
    (po_Desk : PySem.W.plainOver K cD = true)
    (sa_Desk : PySem.W.findIn K (.ref cD) "__setattr__" = some (some (.builtin "object.__setattr__")))
    (mk_Desk : PySem.W.makesIn K cD = true)
    (kc_Desk : PySem.W.keepIn K (.ref cD) = true)
    (n_Desk_state : PySem.W.findIn K (.ref cD) "state" = some none)
    (n_Desk_past : PySem.W.findIn K (.ref cD) "past" = some none)
    (n_Desk_future : PySem.W.findIn K (.ref cD) "future" = some none)
    (n_Desk_blocks : PySem.W.findIn K (.ref cD) "blocks" = some none)
    (n_Desk_known : PySem.W.findIn K (.ref cD) "known" = some none)
    (z_len : PySem.W.nsIn K mainGlobals "len" = some none)
    (z_range : PySem.W.nsIn K mainGlobals "range" = some none)
    (z_all : PySem.W.nsIn K mainGlobals "all" = some none)
    (z_set : PySem.W.nsIn K mainGlobals "set" = some none)
    (z_sorted : PySem.W.nsIn K mainGlobals "sorted" = some none)
    (z_tuple : PySem.W.nsIn K mainGlobals "tuple" = some none)
    (z_abs : PySem.W.nsIn K mainGlobals "abs" = some none)
    (z_int : PySem.W.nsIn K mainGlobals "int" = some none)
    (z_max : PySem.W.nsIn K mainGlobals "max" = some none)
    (z_min : PySem.W.nsIn K mainGlobals "min" = some none)
    (z_list : PySem.W.nsIn K mainGlobals "list" = some none)
    (z_repr : PySem.W.nsIn K mainGlobals "repr" = some none)
    (z_super : PySem.W.nsIn K mainGlobals "super" = some none)
    (zk_MOST_STARS : PySem.W.nsIn K mainGlobals "MOST_STARS" = some (some (.int 20 tk_MOST_STARS)))
    (opq : PySem.W.nsIn K cStatics "thirdparty.any" = some none)
    (aC_InvalidSky : PySem.W.nsIn K mainGlobals "InvalidSky" = some (some (.ref cI)))
    (kc_InvalidSky : PySem.W.keepIn K (.ref cI) = true)
    (eb_InvalidSky : PySem.W.subIn K (.ref cI) (.type "BaseException") = some true)
    (ty_InvalidSky : PySem.W.typeIn K (.ref cI) = some (.type "type"))
    (is_InvalidSky : PySem.W.isClsIn K cI = true)
    (xi_InvalidSky : PySem.W.excIn K cI [.type "ValueError", .type "Exception", .type "BaseException", .type "object"] "ValueError.__new__" = true)
    (aC_UnknownStar : PySem.W.nsIn K mainGlobals "UnknownStar" = some (some (.ref cU)))
    (kc_UnknownStar : PySem.W.keepIn K (.ref cU) = true)
    (eb_UnknownStar : PySem.W.subIn K (.ref cU) (.type "BaseException") = some true)
    (ty_UnknownStar : PySem.W.typeIn K (.ref cU) = some (.type "type"))
    (is_UnknownStar : PySem.W.isClsIn K cU = true)
    (xl_UnknownStar : K.lookup cU = some (PySem.excClassObj nm_UnknownStar q_UnknownStar cU N_UnknownStar bs_UnknownStar [.ref cE_UnknownStar, .type "ValueError", .type "Exception", .type "BaseException", .type "object"] true sn_UnknownStar sub_UnknownStar ab_UnknownStar col_UnknownStar dd_UnknownStar m0_UnknownStar m1_UnknownStar m2_UnknownStar m3_UnknownStar m5_UnknownStar "ValueError.__new__"))
    (sa_UnknownStar : PySem.W.findIn K (.ref cU) "__setattr__" = some (some (.builtin "object.__setattr__")))
    (ga_UnknownStar : PySem.W.findIn K (.ref cU) "__getattribute__" = some (some (.builtin "BaseException.__getattribute__")))
    (gg_UnknownStar : PySem.W.findIn K (.ref cU) "__getattr__" = some none)
    (hd_UnknownStar : PySem.W.hasDictIn K cU = true)
    (nf_UnknownStar : PySem.W.findIn K (.ref cU) "number" = some none)
    (iC_UnknownStar : PySem.W.findIn K (.ref cU) "__init__" = some (some (.ref f_UnknownStar)))
    (tf_UnknownStar_ty : PySem.W.typeIn K (.ref f_UnknownStar) = some (.type "function"))
    (lk_UnknownStar : K.lookup f_UnknownStar = some ⟨oc_UnknownStar, od_UnknownStar, .func (PySem.W.ksFn "__init__" "UnknownStar.__init__" (defArgs s_UnknownStar___init__) (defBody s_UnknownStar___init__) (defScope s_UnknownStar___init__) dV_UnknownStar kV_UnknownStar dc_UnknownStar pm_UnknownStar an_UnknownStar (.ref cda_UnknownStar) ct_UnknownStar cc_UnknownStar), osl_UnknownStar⟩)
    (cd_UnknownStar : PySem.W.codeIn K (.ref cda_UnknownStar) "UnknownStar.__init__" = true)
    (lc_UnknownStar : K.lookup cda_UnknownStar = some ⟨ccl_UnknownStar, cdd_UnknownStar, .fields vs_UnknownStar, ccs_UnknownStar⟩)
    (vs_UnknownStar_2 : vs_UnknownStar[2]? = some (.str file_UnknownStar tf_UnknownStar))
    (fl_UnknownStar : ((P.main.file : Str) == file_UnknownStar) = true)
    (lx_UnknownStar : K.lookup cc_UnknownStar = some ⟨cl_UnknownStar, cld_UnknownStar, .cell (some (.ref cU)), csl_UnknownStar⟩)
    (su_UnknownStar : PySem.W.ks_superIn K cU cU "__init__" = some (some (.builtin "ValueError.__init__")))
    (sv_UnknownStar : PySem.W.subIn K (.ref cU) (.type "ValueError") = some true)
    (mr_UnknownStar : PySem.W.mroIn K cU (.ref cU) = some true)
    (dn_UnknownStar : dV_UnknownStar = .none)
    (aC_StarTaken : PySem.W.nsIn K mainGlobals "StarTaken" = some (some (.ref cT)))
    (kc_StarTaken : PySem.W.keepIn K (.ref cT) = true)
    (eb_StarTaken : PySem.W.subIn K (.ref cT) (.type "BaseException") = some true)
    (ty_StarTaken : PySem.W.typeIn K (.ref cT) = some (.type "type"))
    (is_StarTaken : PySem.W.isClsIn K cT = true)
    (xl_StarTaken : K.lookup cT = some (PySem.excClassObj nm_StarTaken q_StarTaken cT N_StarTaken bs_StarTaken [.ref cE_StarTaken, .type "ValueError", .type "Exception", .type "BaseException", .type "object"] true sn_StarTaken sub_StarTaken ab_StarTaken col_StarTaken dd_StarTaken m0_StarTaken m1_StarTaken m2_StarTaken m3_StarTaken m5_StarTaken "ValueError.__new__"))
    (sa_StarTaken : PySem.W.findIn K (.ref cT) "__setattr__" = some (some (.builtin "object.__setattr__")))
    (ga_StarTaken : PySem.W.findIn K (.ref cT) "__getattribute__" = some (some (.builtin "BaseException.__getattribute__")))
    (gg_StarTaken : PySem.W.findIn K (.ref cT) "__getattr__" = some none)
    (hd_StarTaken : PySem.W.hasDictIn K cT = true)
    (nf_StarTaken : PySem.W.findIn K (.ref cT) "star" = some none)
    (iC_StarTaken : PySem.W.findIn K (.ref cT) "__init__" = some (some (.ref f_StarTaken)))
    (tf_StarTaken_ty : PySem.W.typeIn K (.ref f_StarTaken) = some (.type "function"))
    (lk_StarTaken : K.lookup f_StarTaken = some ⟨oc_StarTaken, od_StarTaken, .func (PySem.W.ksFn "__init__" "StarTaken.__init__" (defArgs s_StarTaken___init__) (defBody s_StarTaken___init__) (defScope s_StarTaken___init__) dV_StarTaken kV_StarTaken dc_StarTaken pm_StarTaken an_StarTaken (.ref cda_StarTaken) ct_StarTaken cc_StarTaken), osl_StarTaken⟩)
    (cd_StarTaken : PySem.W.codeIn K (.ref cda_StarTaken) "StarTaken.__init__" = true)
    (lc_StarTaken : K.lookup cda_StarTaken = some ⟨ccl_StarTaken, cdd_StarTaken, .fields vs_StarTaken, ccs_StarTaken⟩)
    (vs_StarTaken_2 : vs_StarTaken[2]? = some (.str file_StarTaken tf_StarTaken))
    (fl_StarTaken : ((P.main.file : Str) == file_StarTaken) = true)
    (lx_StarTaken : K.lookup cc_StarTaken = some ⟨cl_StarTaken, cld_StarTaken, .cell (some (.ref cT)), csl_StarTaken⟩)
    (su_StarTaken : PySem.W.ks_superIn K cT cT "__init__" = some (some (.builtin "ValueError.__init__")))
    (sv_StarTaken : PySem.W.subIn K (.ref cT) (.type "ValueError") = some true)
    (mr_StarTaken : PySem.W.mroIn K cT (.ref cT) = some true)
    (dn_StarTaken : dV_StarTaken = .none)
    (aC_InvalidMotion : PySem.W.nsIn K mainGlobals "InvalidMotion" = some (some (.ref cM)))
    (kc_InvalidMotion : PySem.W.keepIn K (.ref cM) = true)
    (eb_InvalidMotion : PySem.W.subIn K (.ref cM) (.type "BaseException") = some true)
    (ty_InvalidMotion : PySem.W.typeIn K (.ref cM) = some (.type "type"))
    (is_InvalidMotion : PySem.W.isClsIn K cM = true)
    (xl_InvalidMotion : K.lookup cM = some (PySem.excClassObj nm_InvalidMotion q_InvalidMotion cM N_InvalidMotion bs_InvalidMotion [.ref cE_InvalidMotion, .type "ValueError", .type "Exception", .type "BaseException", .type "object"] true sn_InvalidMotion sub_InvalidMotion ab_InvalidMotion col_InvalidMotion dd_InvalidMotion m0_InvalidMotion m1_InvalidMotion m2_InvalidMotion m3_InvalidMotion m5_InvalidMotion "ValueError.__new__"))
    (sa_InvalidMotion : PySem.W.findIn K (.ref cM) "__setattr__" = some (some (.builtin "object.__setattr__")))
    (ga_InvalidMotion : PySem.W.findIn K (.ref cM) "__getattribute__" = some (some (.builtin "BaseException.__getattribute__")))
    (gg_InvalidMotion : PySem.W.findIn K (.ref cM) "__getattr__" = some none)
    (hd_InvalidMotion : PySem.W.hasDictIn K cM = true)
    (nf_InvalidMotion : PySem.W.findIn K (.ref cM) "motion" = some none)
    (iC_InvalidMotion : PySem.W.findIn K (.ref cM) "__init__" = some (some (.ref f_InvalidMotion)))
    (tf_InvalidMotion_ty : PySem.W.typeIn K (.ref f_InvalidMotion) = some (.type "function"))
    (lk_InvalidMotion : K.lookup f_InvalidMotion = some ⟨oc_InvalidMotion, od_InvalidMotion, .func (PySem.W.ksFn "__init__" "InvalidMotion.__init__" (defArgs s_InvalidMotion___init__) (defBody s_InvalidMotion___init__) (defScope s_InvalidMotion___init__) dV_InvalidMotion kV_InvalidMotion dc_InvalidMotion pm_InvalidMotion an_InvalidMotion (.ref cda_InvalidMotion) ct_InvalidMotion cc_InvalidMotion), osl_InvalidMotion⟩)
    (cd_InvalidMotion : PySem.W.codeIn K (.ref cda_InvalidMotion) "InvalidMotion.__init__" = true)
    (lc_InvalidMotion : K.lookup cda_InvalidMotion = some ⟨ccl_InvalidMotion, cdd_InvalidMotion, .fields vs_InvalidMotion, ccs_InvalidMotion⟩)
    (vs_InvalidMotion_2 : vs_InvalidMotion[2]? = some (.str file_InvalidMotion tf_InvalidMotion))
    (fl_InvalidMotion : ((P.main.file : Str) == file_InvalidMotion) = true)
    (lx_InvalidMotion : K.lookup cc_InvalidMotion = some ⟨cl_InvalidMotion, cld_InvalidMotion, .cell (some (.ref cM)), csl_InvalidMotion⟩)
    (su_InvalidMotion : PySem.W.ks_superIn K cM cM "__init__" = some (some (.builtin "ValueError.__init__")))
    (sv_InvalidMotion : PySem.W.subIn K (.ref cM) (.type "ValueError") = some true)
    (mr_InvalidMotion : PySem.W.mroIn K cM (.ref cM) = some true)
    (dn_InvalidMotion : dV_InvalidMotion = .none)
    (aC_NothingToUndo : PySem.W.nsIn K mainGlobals "NothingToUndo" = some (some (.ref cNU)))
    (kc_NothingToUndo : PySem.W.keepIn K (.ref cNU) = true)
    (eb_NothingToUndo : PySem.W.subIn K (.ref cNU) (.type "BaseException") = some true)
    (ty_NothingToUndo : PySem.W.typeIn K (.ref cNU) = some (.type "type"))
    (is_NothingToUndo : PySem.W.isClsIn K cNU = true)
    (xi_NothingToUndo : PySem.W.excIn K cNU [.type "ValueError", .type "Exception", .type "BaseException", .type "object"] "ValueError.__new__" = true)
    (aC_NothingToRedo : PySem.W.nsIn K mainGlobals "NothingToRedo" = some (some (.ref cNR)))
    (kc_NothingToRedo : PySem.W.keepIn K (.ref cNR) = true)
    (eb_NothingToRedo : PySem.W.subIn K (.ref cNR) (.type "BaseException") = some true)
    (ty_NothingToRedo : PySem.W.typeIn K (.ref cNR) = some (.type "type"))
    (is_NothingToRedo : PySem.W.isClsIn K cNR = true)
    (xi_NothingToRedo : PySem.W.excIn K cNR [.type "ValueError", .type "Exception", .type "BaseException", .type "object"] "ValueError.__new__" = true)
    (xm_StarTaken_StarTaken : PySem.W.exmOne K (.ref cT) (.ref cT) = some true)
    (xm_UnknownStar_StarTaken : PySem.W.exmOne K (.ref cU) (.ref cT) = some false)
    (xm_UnknownStar_UnknownStar : PySem.W.exmOne K (.ref cU) (.ref cU) = some true)
    (xm_InvalidMotion_StarTaken : PySem.W.exmOne K (.ref cM) (.ref cT) = some false)
    (xm_InvalidMotion_UnknownStar : PySem.W.exmOne K (.ref cM) (.ref cU) = some false)
    (xm_InvalidMotion_InvalidMotion : PySem.W.exmOne K (.ref cM) (.ref cM) = some true)
    (xm_InvalidSky_StarTaken : PySem.W.exmOne K (.ref cI) (.ref cT) = some false)
    (xm_InvalidSky_UnknownStar : PySem.W.exmOne K (.ref cI) (.ref cU) = some false)
    (xm_InvalidSky_InvalidMotion : PySem.W.exmOne K (.ref cI) (.ref cM) = some false)
    (xm_InvalidSky_InvalidSky : PySem.W.exmOne K (.ref cI) (.ref cI) = some true)
    (xm_NothingToUndo_NothingToUndo : PySem.W.exmOne K (.ref cNU) (.ref cNU) = some true)
    (xm_NothingToRedo_NothingToUndo : PySem.W.exmOne K (.ref cNR) (.ref cNU) = some false)
    (xm_NothingToRedo_NothingToRedo : PySem.W.exmOne K (.ref cNR) (.ref cNR) = some true)
    (q_is_camera : PySem.W.nsIn K mainGlobals "is_camera" = some (some (.ref a_is_camera)))
    (l_is_camera : K.lookup a_is_camera = some ⟨oc_is_camera, od_is_camera, .func (PySem.W.fnOf "is_camera" "is_camera" (defArgs s_is_camera) (defBody s_is_camera) (defScope s_is_camera) .none kV_is_camera dc_is_camera pm_is_camera an_is_camera cd_is_camera ct_is_camera), sl_is_camera⟩)
    (c_is_camera : PySem.W.codeIn K cd_is_camera "is_camera" = true)
    (k_is_camera : PySem.W.keepIn K (.ref a_is_camera) = true)
    (q_is_star : PySem.W.nsIn K mainGlobals "is_star" = some (some (.ref a_is_star)))
    (l_is_star : K.lookup a_is_star = some ⟨oc_is_star, od_is_star, .func (PySem.W.fnOf "is_star" "is_star" (defArgs s_is_star) (defBody s_is_star) (defScope s_is_star) .none kV_is_star dc_is_star pm_is_star an_is_star cd_is_star ct_is_star), sl_is_star⟩)
    (c_is_star : PySem.W.codeIn K cd_is_star "is_star" = true)
    (k_is_star : PySem.W.keepIn K (.ref a_is_star) = true)
    (q_is_motion : PySem.W.nsIn K mainGlobals "is_motion" = some (some (.ref a_is_motion)))
    (l_is_motion : K.lookup a_is_motion = some ⟨oc_is_motion, od_is_motion, .func (PySem.W.fnOf "is_motion" "is_motion" (defArgs s_is_motion) (defBody s_is_motion) (defScope s_is_motion) .none kV_is_motion dc_is_motion pm_is_motion an_is_motion cd_is_motion ct_is_motion), sl_is_motion⟩)
    (c_is_motion : PySem.W.codeIn K cd_is_motion "is_motion" = true)
    (k_is_motion : PySem.W.keepIn K (.ref a_is_motion) = true)
    (q_moved_place : PySem.W.nsIn K mainGlobals "moved_place" = some (some (.ref a_moved_place)))
    (l_moved_place : K.lookup a_moved_place = some ⟨oc_moved_place, od_moved_place, .func (PySem.W.fnOf "moved_place" "moved_place" (defArgs s_moved_place) (defBody s_moved_place) (defScope s_moved_place) .none kV_moved_place dc_moved_place pm_moved_place an_moved_place cd_moved_place ct_moved_place), sl_moved_place⟩)
    (c_moved_place : PySem.W.codeIn K cd_moved_place "moved_place" = true)
    (k_moved_place : PySem.W.keepIn K (.ref a_moved_place) = true)
    (q_Sky___init__ : PySem.W.findIn K (.ref cS) "__init__" = some (some (.ref a_Sky___init__)))
    (i_Sky___init__ : PySem.W.isFn K (.ref a_Sky___init__) = true)
    (l_Sky___init__ : K.lookup a_Sky___init__ = some ⟨oc_Sky___init__, od_Sky___init__, .func (PySem.W.fnOf "__init__" "Sky.__init__" (defArgs s_Sky___init__) (defBody s_Sky___init__) (defScope s_Sky___init__) .none kV_Sky___init__ dc_Sky___init__ pm_Sky___init__ an_Sky___init__ cd_Sky___init__ ct_Sky___init__), sl_Sky___init__⟩)
    (c_Sky___init__ : PySem.W.codeIn K cd_Sky___init__ "Sky.__init__" = true)
    (k_Sky___init__ : PySem.W.keepIn K (.ref a_Sky___init__) = true)
    (q_Sky_side : PySem.W.findIn K (.ref cS) "side" = some (some (.ref p_Sky_side)))
    (g_Sky_side : PySem.W.specialIn K (.ref p_Sky_side) "__get__" = some (some (.builtin "property.__get__")))
    (t_Sky_side : PySem.W.takesIn K (.ref p_Sky_side) = some true)
    (r_Sky_side : PySem.W.recIn K p_Sky_side "property" = some (.ref a_Sky_side :: rs_Sky_side))
    (l_Sky_side : K.lookup a_Sky_side = some ⟨oc_Sky_side, od_Sky_side, .func (PySem.W.fnOf "side" "Sky.side" (defArgs s_Sky_side) (defBody s_Sky_side) (defScope s_Sky_side) .none kV_Sky_side dc_Sky_side pm_Sky_side an_Sky_side cd_Sky_side ct_Sky_side), sl_Sky_side⟩)
    (c_Sky_side : PySem.W.codeIn K cd_Sky_side "Sky.side" = true)
    (k_Sky_side : PySem.W.keepIn K (.ref a_Sky_side) = true)
    (q_Sky_stars : PySem.W.findIn K (.ref cS) "stars" = some (some (.ref p_Sky_stars)))
    (g_Sky_stars : PySem.W.specialIn K (.ref p_Sky_stars) "__get__" = some (some (.builtin "property.__get__")))
    (t_Sky_stars : PySem.W.takesIn K (.ref p_Sky_stars) = some true)
    (r_Sky_stars : PySem.W.recIn K p_Sky_stars "property" = some (.ref a_Sky_stars :: rs_Sky_stars))
    (l_Sky_stars : K.lookup a_Sky_stars = some ⟨oc_Sky_stars, od_Sky_stars, .func (PySem.W.fnOf "stars" "Sky.stars" (defArgs s_Sky_stars) (defBody s_Sky_stars) (defScope s_Sky_stars) .none kV_Sky_stars dc_Sky_stars pm_Sky_stars an_Sky_stars cd_Sky_stars ct_Sky_stars), sl_Sky_stars⟩)
    (c_Sky_stars : PySem.W.codeIn K cd_Sky_stars "Sky.stars" = true)
    (k_Sky_stars : PySem.W.keepIn K (.ref a_Sky_stars) = true)
    (q_Sky_camera : PySem.W.findIn K (.ref cS) "camera" = some (some (.ref p_Sky_camera)))
    (g_Sky_camera : PySem.W.specialIn K (.ref p_Sky_camera) "__get__" = some (some (.builtin "property.__get__")))
    (t_Sky_camera : PySem.W.takesIn K (.ref p_Sky_camera) = some true)
    (r_Sky_camera : PySem.W.recIn K p_Sky_camera "property" = some (.ref a_Sky_camera :: rs_Sky_camera))
    (l_Sky_camera : K.lookup a_Sky_camera = some ⟨oc_Sky_camera, od_Sky_camera, .func (PySem.W.fnOf "camera" "Sky.camera" (defArgs s_Sky_camera) (defBody s_Sky_camera) (defScope s_Sky_camera) .none kV_Sky_camera dc_Sky_camera pm_Sky_camera an_Sky_camera cd_Sky_camera ct_Sky_camera), sl_Sky_camera⟩)
    (c_Sky_camera : PySem.W.codeIn K cd_Sky_camera "Sky.camera" = true)
    (k_Sky_camera : PySem.W.keepIn K (.ref a_Sky_camera) = true)
    (q_Sky_star_at : PySem.W.findIn K (.ref cS) "star_at" = some (some (.ref a_Sky_star_at)))
    (i_Sky_star_at : PySem.W.isFn K (.ref a_Sky_star_at) = true)
    (l_Sky_star_at : K.lookup a_Sky_star_at = some ⟨oc_Sky_star_at, od_Sky_star_at, .func (PySem.W.fnOf "star_at" "Sky.star_at" (defArgs s_Sky_star_at) (defBody s_Sky_star_at) (defScope s_Sky_star_at) .none kV_Sky_star_at dc_Sky_star_at pm_Sky_star_at an_Sky_star_at cd_Sky_star_at ct_Sky_star_at), sl_Sky_star_at⟩)
    (c_Sky_star_at : PySem.W.codeIn K cd_Sky_star_at "Sky.star_at" = true)
    (k_Sky_star_at : PySem.W.keepIn K (.ref a_Sky_star_at) = true)
    (q_Sky_with_star : PySem.W.findIn K (.ref cS) "with_star" = some (some (.ref a_Sky_with_star)))
    (i_Sky_with_star : PySem.W.isFn K (.ref a_Sky_with_star) = true)
    (l_Sky_with_star : K.lookup a_Sky_with_star = some ⟨oc_Sky_with_star, od_Sky_with_star, .func (PySem.W.fnOf "with_star" "Sky.with_star" (defArgs s_Sky_with_star) (defBody s_Sky_with_star) (defScope s_Sky_with_star) .none kV_Sky_with_star dc_Sky_with_star pm_Sky_with_star an_Sky_with_star cd_Sky_with_star ct_Sky_with_star), sl_Sky_with_star⟩)
    (c_Sky_with_star : PySem.W.codeIn K cd_Sky_with_star "Sky.with_star" = true)
    (k_Sky_with_star : PySem.W.keepIn K (.ref a_Sky_with_star) = true)
    (q_Sky_with_camera : PySem.W.findIn K (.ref cS) "with_camera" = some (some (.ref a_Sky_with_camera)))
    (i_Sky_with_camera : PySem.W.isFn K (.ref a_Sky_with_camera) = true)
    (l_Sky_with_camera : K.lookup a_Sky_with_camera = some ⟨oc_Sky_with_camera, od_Sky_with_camera, .func (PySem.W.fnOf "with_camera" "Sky.with_camera" (defArgs s_Sky_with_camera) (defBody s_Sky_with_camera) (defScope s_Sky_with_camera) .none kV_Sky_with_camera dc_Sky_with_camera pm_Sky_with_camera an_Sky_with_camera cd_Sky_with_camera ct_Sky_with_camera), sl_Sky_with_camera⟩)
    (c_Sky_with_camera : PySem.W.codeIn K cd_Sky_with_camera "Sky.with_camera" = true)
    (k_Sky_with_camera : PySem.W.keepIn K (.ref a_Sky_with_camera) = true)
    (q_Sky_without_star : PySem.W.findIn K (.ref cS) "without_star" = some (some (.ref a_Sky_without_star)))
    (i_Sky_without_star : PySem.W.isFn K (.ref a_Sky_without_star) = true)
    (l_Sky_without_star : K.lookup a_Sky_without_star = some ⟨oc_Sky_without_star, od_Sky_without_star, .func (PySem.W.fnOf "without_star" "Sky.without_star" (defArgs s_Sky_without_star) (defBody s_Sky_without_star) (defScope s_Sky_without_star) .none kV_Sky_without_star dc_Sky_without_star pm_Sky_without_star an_Sky_without_star cd_Sky_without_star ct_Sky_without_star), sl_Sky_without_star⟩)
    (c_Sky_without_star : PySem.W.codeIn K cd_Sky_without_star "Sky.without_star" = true)
    (k_Sky_without_star : PySem.W.keepIn K (.ref a_Sky_without_star) = true)
    (q_Sky_moved : PySem.W.findIn K (.ref cS) "moved" = some (some (.ref a_Sky_moved)))
    (i_Sky_moved : PySem.W.isFn K (.ref a_Sky_moved) = true)
    (l_Sky_moved : K.lookup a_Sky_moved = some ⟨oc_Sky_moved, od_Sky_moved, .func (PySem.W.fnOf "moved" "Sky.moved" (defArgs s_Sky_moved) (defBody s_Sky_moved) (defScope s_Sky_moved) .none kV_Sky_moved dc_Sky_moved pm_Sky_moved an_Sky_moved cd_Sky_moved ct_Sky_moved), sl_Sky_moved⟩)
    (c_Sky_moved : PySem.W.codeIn K cd_Sky_moved "Sky.moved" = true)
    (k_Sky_moved : PySem.W.keepIn K (.ref a_Sky_moved) = true)
    (q_Desk___init__ : PySem.W.findIn K (.ref cD) "__init__" = some (some (.ref a_Desk___init__)))
    (i_Desk___init__ : PySem.W.isFn K (.ref a_Desk___init__) = true)
    (l_Desk___init__ : K.lookup a_Desk___init__ = some ⟨oc_Desk___init__, od_Desk___init__, .func (PySem.W.fnOf "__init__" "Desk.__init__" (defArgs s_Desk___init__) (defBody s_Desk___init__) (defScope s_Desk___init__) .none kV_Desk___init__ dc_Desk___init__ pm_Desk___init__ an_Desk___init__ cd_Desk___init__ ct_Desk___init__), sl_Desk___init__⟩)
    (c_Desk___init__ : PySem.W.codeIn K cd_Desk___init__ "Desk.__init__" = true)
    (k_Desk___init__ : PySem.W.keepIn K (.ref a_Desk___init__) = true)
    (q_Desk_sky_now : PySem.W.findIn K (.ref cD) "sky_now" = some (some (.ref a_Desk_sky_now)))
    (i_Desk_sky_now : PySem.W.isFn K (.ref a_Desk_sky_now) = true)
    (l_Desk_sky_now : K.lookup a_Desk_sky_now = some ⟨oc_Desk_sky_now, od_Desk_sky_now, .func (PySem.W.fnOf "sky_now" "Desk.sky_now" (defArgs s_Desk_sky_now) (defBody s_Desk_sky_now) (defScope s_Desk_sky_now) .none kV_Desk_sky_now dc_Desk_sky_now pm_Desk_sky_now an_Desk_sky_now cd_Desk_sky_now ct_Desk_sky_now), sl_Desk_sky_now⟩)
    (c_Desk_sky_now : PySem.W.codeIn K cd_Desk_sky_now "Desk.sky_now" = true)
    (k_Desk_sky_now : PySem.W.keepIn K (.ref a_Desk_sky_now) = true)
    (q_Desk_change_to : PySem.W.findIn K (.ref cD) "change_to" = some (some (.ref a_Desk_change_to)))
    (i_Desk_change_to : PySem.W.isFn K (.ref a_Desk_change_to) = true)
    (l_Desk_change_to : K.lookup a_Desk_change_to = some ⟨oc_Desk_change_to, od_Desk_change_to, .func (PySem.W.fnOf "change_to" "Desk.change_to" (defArgs s_Desk_change_to) (defBody s_Desk_change_to) (defScope s_Desk_change_to) .none kV_Desk_change_to dc_Desk_change_to pm_Desk_change_to an_Desk_change_to cd_Desk_change_to ct_Desk_change_to), sl_Desk_change_to⟩)
    (c_Desk_change_to : PySem.W.codeIn K cd_Desk_change_to "Desk.change_to" = true)
    (k_Desk_change_to : PySem.W.keepIn K (.ref a_Desk_change_to) = true)
    (q_Desk_put_star : PySem.W.findIn K (.ref cD) "put_star" = some (some (.ref a_Desk_put_star)))
    (i_Desk_put_star : PySem.W.isFn K (.ref a_Desk_put_star) = true)
    (l_Desk_put_star : K.lookup a_Desk_put_star = some ⟨oc_Desk_put_star, od_Desk_put_star, .func (PySem.W.fnOf "put_star" "Desk.put_star" (defArgs s_Desk_put_star) (defBody s_Desk_put_star) (defScope s_Desk_put_star) .none kV_Desk_put_star dc_Desk_put_star pm_Desk_put_star an_Desk_put_star cd_Desk_put_star ct_Desk_put_star), sl_Desk_put_star⟩)
    (c_Desk_put_star : PySem.W.codeIn K cd_Desk_put_star "Desk.put_star" = true)
    (k_Desk_put_star : PySem.W.keepIn K (.ref a_Desk_put_star) = true)
    (q_Desk_drop_star : PySem.W.findIn K (.ref cD) "drop_star" = some (some (.ref a_Desk_drop_star)))
    (i_Desk_drop_star : PySem.W.isFn K (.ref a_Desk_drop_star) = true)
    (l_Desk_drop_star : K.lookup a_Desk_drop_star = some ⟨oc_Desk_drop_star, od_Desk_drop_star, .func (PySem.W.fnOf "drop_star" "Desk.drop_star" (defArgs s_Desk_drop_star) (defBody s_Desk_drop_star) (defScope s_Desk_drop_star) .none kV_Desk_drop_star dc_Desk_drop_star pm_Desk_drop_star an_Desk_drop_star cd_Desk_drop_star ct_Desk_drop_star), sl_Desk_drop_star⟩)
    (c_Desk_drop_star : PySem.W.codeIn K cd_Desk_drop_star "Desk.drop_star" = true)
    (k_Desk_drop_star : PySem.W.keepIn K (.ref a_Desk_drop_star) = true)
    (q_Desk_set_camera : PySem.W.findIn K (.ref cD) "set_camera" = some (some (.ref a_Desk_set_camera)))
    (i_Desk_set_camera : PySem.W.isFn K (.ref a_Desk_set_camera) = true)
    (l_Desk_set_camera : K.lookup a_Desk_set_camera = some ⟨oc_Desk_set_camera, od_Desk_set_camera, .func (PySem.W.fnOf "set_camera" "Desk.set_camera" (defArgs s_Desk_set_camera) (defBody s_Desk_set_camera) (defScope s_Desk_set_camera) .none kV_Desk_set_camera dc_Desk_set_camera pm_Desk_set_camera an_Desk_set_camera cd_Desk_set_camera ct_Desk_set_camera), sl_Desk_set_camera⟩)
    (c_Desk_set_camera : PySem.W.codeIn K cd_Desk_set_camera "Desk.set_camera" = true)
    (k_Desk_set_camera : PySem.W.keepIn K (.ref a_Desk_set_camera) = true)
    (q_Desk_move_sky : PySem.W.findIn K (.ref cD) "move_sky" = some (some (.ref a_Desk_move_sky)))
    (i_Desk_move_sky : PySem.W.isFn K (.ref a_Desk_move_sky) = true)
    (l_Desk_move_sky : K.lookup a_Desk_move_sky = some ⟨oc_Desk_move_sky, od_Desk_move_sky, .func (PySem.W.fnOf "move_sky" "Desk.move_sky" (defArgs s_Desk_move_sky) (defBody s_Desk_move_sky) (defScope s_Desk_move_sky) .none kV_Desk_move_sky dc_Desk_move_sky pm_Desk_move_sky an_Desk_move_sky cd_Desk_move_sky ct_Desk_move_sky), sl_Desk_move_sky⟩)
    (c_Desk_move_sky : PySem.W.codeIn K cd_Desk_move_sky "Desk.move_sky" = true)
    (k_Desk_move_sky : PySem.W.keepIn K (.ref a_Desk_move_sky) = true)
    (q_Desk_undo : PySem.W.findIn K (.ref cD) "undo" = some (some (.ref a_Desk_undo)))
    (i_Desk_undo : PySem.W.isFn K (.ref a_Desk_undo) = true)
    (l_Desk_undo : K.lookup a_Desk_undo = some ⟨oc_Desk_undo, od_Desk_undo, .func (PySem.W.fnOf "undo" "Desk.undo" (defArgs s_Desk_undo) (defBody s_Desk_undo) (defScope s_Desk_undo) .none kV_Desk_undo dc_Desk_undo pm_Desk_undo an_Desk_undo cd_Desk_undo ct_Desk_undo), sl_Desk_undo⟩)
    (c_Desk_undo : PySem.W.codeIn K cd_Desk_undo "Desk.undo" = true)
    (k_Desk_undo : PySem.W.keepIn K (.ref a_Desk_undo) = true)
    (q_Desk_redo : PySem.W.findIn K (.ref cD) "redo" = some (some (.ref a_Desk_redo)))
    (i_Desk_redo : PySem.W.isFn K (.ref a_Desk_redo) = true)
    (l_Desk_redo : K.lookup a_Desk_redo = some ⟨oc_Desk_redo, od_Desk_redo, .func (PySem.W.fnOf "redo" "Desk.redo" (defArgs s_Desk_redo) (defBody s_Desk_redo) (defScope s_Desk_redo) .none kV_Desk_redo dc_Desk_redo pm_Desk_redo an_Desk_redo cd_Desk_redo ct_Desk_redo), sl_Desk_redo⟩)
    (c_Desk_redo : PySem.W.codeIn K cd_Desk_redo "Desk.redo" = true)
    (k_Desk_redo : PySem.W.keepIn K (.ref a_Desk_redo) = true)
    (q__law_row : PySem.W.nsIn K mainGlobals "_law_row" = some (some (.ref a__law_row)))
    (l__law_row : K.lookup a__law_row = some ⟨oc__law_row, od__law_row, .func (PySem.W.fnOf "_law_row" "_law_row" (defArgs s__law_row) (defBody s__law_row) (defScope s__law_row) .none kV__law_row dc__law_row pm__law_row an__law_row cd__law_row ct__law_row), sl__law_row⟩)
    (c__law_row : PySem.W.codeIn K cd__law_row "_law_row" = true)
    (k__law_row : PySem.W.keepIn K (.ref a__law_row) = true)
    (q__law_numbers : PySem.W.nsIn K mainGlobals "_law_numbers" = some (some (.ref a__law_numbers)))
    (l__law_numbers : K.lookup a__law_numbers = some ⟨oc__law_numbers, od__law_numbers, .func (PySem.W.fnOf "_law_numbers" "_law_numbers" (defArgs s__law_numbers) (defBody s__law_numbers) (defScope s__law_numbers) .none kV__law_numbers dc__law_numbers pm__law_numbers an__law_numbers cd__law_numbers ct__law_numbers), sl__law_numbers⟩)
    (c__law_numbers : PySem.W.codeIn K cd__law_numbers "_law_numbers" = true)
    (k__law_numbers : PySem.W.keepIn K (.ref a__law_numbers) = true)
    (q__law_parts : PySem.W.nsIn K mainGlobals "_law_parts" = some (some (.ref a__law_parts)))
    (l__law_parts : K.lookup a__law_parts = some ⟨oc__law_parts, od__law_parts, .func (PySem.W.fnOf "_law_parts" "_law_parts" (defArgs s__law_parts) (defBody s__law_parts) (defScope s__law_parts) .none kV__law_parts dc__law_parts pm__law_parts an__law_parts cd__law_parts ct__law_parts), sl__law_parts⟩)
    (c__law_parts : PySem.W.codeIn K cd__law_parts "_law_parts" = true)
    (k__law_parts : PySem.W.keepIn K (.ref a__law_parts) = true)
    (q__law_turn : PySem.W.nsIn K mainGlobals "_law_turn" = some (some (.ref a__law_turn)))
    (l__law_turn : K.lookup a__law_turn = some ⟨oc__law_turn, od__law_turn, .func (PySem.W.fnOf "_law_turn" "_law_turn" (defArgs s__law_turn) (defBody s__law_turn) (defScope s__law_turn) .none kV__law_turn dc__law_turn pm__law_turn an__law_turn cd__law_turn ct__law_turn), sl__law_turn⟩)
    (c__law_turn : PySem.W.codeIn K cd__law_turn "_law_turn" = true)
    (k__law_turn : PySem.W.keepIn K (.ref a__law_turn) = true)
    (q__law_moved : PySem.W.nsIn K mainGlobals "_law_moved" = some (some (.ref a__law_moved)))
    (l__law_moved : K.lookup a__law_moved = some ⟨oc__law_moved, od__law_moved, .func (PySem.W.fnOf "_law_moved" "_law_moved" (defArgs s__law_moved) (defBody s__law_moved) (defScope s__law_moved) .none kV__law_moved dc__law_moved pm__law_moved an__law_moved cd__law_moved ct__law_moved), sl__law_moved⟩)
    (c__law_moved : PySem.W.codeIn K cd__law_moved "_law_moved" = true)
    (k__law_moved : PySem.W.keepIn K (.ref a__law_moved) = true)
    (q__law_is_camera : PySem.W.nsIn K mainGlobals "_law_is_camera" = some (some (.ref a__law_is_camera)))
    (l__law_is_camera : K.lookup a__law_is_camera = some ⟨oc__law_is_camera, od__law_is_camera, .func (PySem.W.fnOf "_law_is_camera" "_law_is_camera" (defArgs s__law_is_camera) (defBody s__law_is_camera) (defScope s__law_is_camera) .none kV__law_is_camera dc__law_is_camera pm__law_is_camera an__law_is_camera cd__law_is_camera ct__law_is_camera), sl__law_is_camera⟩)
    (c__law_is_camera : PySem.W.codeIn K cd__law_is_camera "_law_is_camera" = true)
    (k__law_is_camera : PySem.W.keepIn K (.ref a__law_is_camera) = true)
    (q__law_behind : PySem.W.nsIn K mainGlobals "_law_behind" = some (some (.ref a__law_behind)))
    (l__law_behind : K.lookup a__law_behind = some ⟨oc__law_behind, od__law_behind, .func (PySem.W.fnOf "_law_behind" "_law_behind" (defArgs s__law_behind) (defBody s__law_behind) (defScope s__law_behind) .none kV__law_behind dc__law_behind pm__law_behind an__law_behind cd__law_behind ct__law_behind), sl__law_behind⟩)
    (c__law_behind : PySem.W.codeIn K cd__law_behind "_law_behind" = true)
    (k__law_behind : PySem.W.keepIn K (.ref a__law_behind) = true)
    (q__law_deed : PySem.W.nsIn K mainGlobals "_law_deed" = some (some (.ref a__law_deed)))
    (l__law_deed : K.lookup a__law_deed = some ⟨oc__law_deed, od__law_deed, .func (PySem.W.fnOf "_law_deed" "_law_deed" (defArgs s__law_deed) (defBody s__law_deed) (defScope s__law_deed) .none kV__law_deed dc__law_deed pm__law_deed an__law_deed cd__law_deed ct__law_deed), sl__law_deed⟩)
    (c__law_deed : PySem.W.codeIn K cd__law_deed "_law_deed" = true)
    (k__law_deed : PySem.W.keepIn K (.ref a__law_deed) = true)
    (q__law_told : PySem.W.nsIn K mainGlobals "_law_told" = some (some (.ref a__law_told)))
    (l__law_told : K.lookup a__law_told = some ⟨oc__law_told, od__law_told, .func (PySem.W.fnOf "_law_told" "_law_told" (defArgs s__law_told) (defBody s__law_told) (defScope s__law_told) .none kV__law_told dc__law_told pm__law_told an__law_told cd__law_told ct__law_told), sl__law_told⟩)
    (c__law_told : PySem.W.codeIn K cd__law_told "_law_told" = true)
    (k__law_told : PySem.W.keepIn K (.ref a__law_told) = true)
    (q__law_do : PySem.W.nsIn K mainGlobals "_law_do" = some (some (.ref a__law_do)))
    (l__law_do : K.lookup a__law_do = some ⟨oc__law_do, od__law_do, .func (PySem.W.fnOf "_law_do" "_law_do" (defArgs s__law_do) (defBody s__law_do) (defScope s__law_do) .none kV__law_do dc__law_do pm__law_do an__law_do cd__law_do ct__law_do), sl__law_do⟩)
    (c__law_do : PySem.W.codeIn K cd__law_do "_law_do" = true)
    (k__law_do : PySem.W.keepIn K (.ref a__law_do) = true)
    (q__law_can : PySem.W.nsIn K mainGlobals "_law_can" = some (some (.ref a__law_can)))
    (l__law_can : K.lookup a__law_can = some ⟨oc__law_can, od__law_can, .func (PySem.W.fnOf "_law_can" "_law_can" (defArgs s__law_can) (defBody s__law_can) (defScope s__law_can) .none kV__law_can dc__law_can pm__law_can an__law_can cd__law_can ct__law_can), sl__law_can⟩)
    (c__law_can : PySem.W.codeIn K cd__law_can "_law_can" = true)
    (k__law_can : PySem.W.keepIn K (.ref a__law_can) = true)
    (q__law_ways : PySem.W.nsIn K mainGlobals "_law_ways" = some (some (.ref a__law_ways)))
    (l__law_ways : K.lookup a__law_ways = some ⟨oc__law_ways, od__law_ways, .func (PySem.W.fnOf "_law_ways" "_law_ways" (defArgs s__law_ways) (defBody s__law_ways) (defScope s__law_ways) .none kV__law_ways dc__law_ways pm__law_ways an__law_ways cd__law_ways ct__law_ways), sl__law_ways⟩)
    (c__law_ways : PySem.W.codeIn K cd__law_ways "_law_ways" = true)
    (k__law_ways : PySem.W.keepIn K (.ref a__law_ways) = true)
    (q_law : PySem.W.nsIn K mainGlobals "law" = some (some (.ref a_law)))
    (l_law : K.lookup a_law = some ⟨oc_law, od_law, .func (PySem.W.fnOf "law" "law" (defArgs s_law) (defBody s_law) (defScope s_law) .none kV_law dc_law pm_law an_law cd_law ct_law), sl_law⟩)
    (c_law : PySem.W.codeIn K cd_law "law" = true)
    (k_law : PySem.W.keepIn K (.ref a_law) = true)
    (q_Desk_change_all : PySem.W.findIn K (.ref cD) "change_all" = some (some (.ref a_Desk_change_all)))
    (i_Desk_change_all : PySem.W.isFn K (.ref a_Desk_change_all) = true)
    (l_Desk_change_all : K.lookup a_Desk_change_all = some ⟨oc_Desk_change_all, od_Desk_change_all, .func (PySem.W.fnOf "change_all" "Desk.change_all" (defArgs s_Desk_change_all) (defBody s_Desk_change_all) (defScope s_Desk_change_all) .none kV_Desk_change_all dc_Desk_change_all pm_Desk_change_all an_Desk_change_all cd_Desk_change_all ct_Desk_change_all), sl_Desk_change_all⟩)
    (c_Desk_change_all : PySem.W.codeIn K cd_Desk_change_all "Desk.change_all" = true)
    (k_Desk_change_all : PySem.W.keepIn K (.ref a_Desk_change_all) = true)
    (q_Desk_make : PySem.W.findIn K (.ref cD) "make" = some (some (.ref a_Desk_make)))
    (i_Desk_make : PySem.W.isFn K (.ref a_Desk_make) = true)
    (l_Desk_make : K.lookup a_Desk_make = some ⟨oc_Desk_make, od_Desk_make, .func (PySem.W.fnOf "make" "Desk.make" (defArgs s_Desk_make) (defBody s_Desk_make) (defScope s_Desk_make) .none kV_Desk_make dc_Desk_make pm_Desk_make an_Desk_make cd_Desk_make ct_Desk_make), sl_Desk_make⟩)
    (c_Desk_make : PySem.W.codeIn K cd_Desk_make "Desk.make" = true)
    (k_Desk_make : PySem.W.keepIn K (.ref a_Desk_make) = true)
    (q__law_all : PySem.W.nsIn K mainGlobals "_law_all" = some (some (.ref a__law_all)))
    (l__law_all : K.lookup a__law_all = some ⟨oc__law_all, od__law_all, .func (PySem.W.fnOf "_law_all" "_law_all" (defArgs s__law_all) (defBody s__law_all) (defScope s__law_all) .none kV__law_all dc__law_all pm__law_all an__law_all cd__law_all ct__law_all), sl__law_all⟩)
    (c__law_all : PySem.W.codeIn K cd__law_all "_law_all" = true)
    (k__law_all : PySem.W.keepIn K (.ref a__law_all) = true) :
    ∃ fd : FuncData, (∀ (s : Shared) (v : Value), BindsTo s fd ⟨[v], []⟩ [("_law_script", v)]) ∧ ∀ base : Heap, K.In base → base.Ns mainGlobals mg → FnOkG P w K mg base (L2.CX P w) 14 fa fd ["_law_script"] (spF K R_law) := by
  have e := hfa.symm.trans (PySem.W.mg_of X G q_law)
  cases e
  refine ⟨PySem.W.fnOf "law" "law" (defArgs s_law) (defBody s_law) (defScope s_law) .none kV_law dc_law pm_law an_law cd_law ct_law, fun s v => .of_eq rfl, fun base _ _ => ?_⟩
  have cl_Sky : Cls K cS := ⟨pg_Sky, hd_Sky, po_Sky, sa_Sky⟩
  have mgC_Sky : mg "Sky" = some (.ref cS) := PySem.W.mg_of X G aC_Sky
  have sk : SkyC K cS := ⟨cl_Sky, n_Sky__side, n_Sky__stars, n_Sky__camera⟩
  have cl_Desk : Cls K cD := ⟨pg_Desk, hd_Desk, po_Desk, sa_Desk⟩
  have mgC_Desk : mg "Desk" = some (.ref cD) := PySem.W.mg_of X G aC_Desk
  have dk : DeskC K cD := ⟨cl_Desk, n_Desk_state, n_Desk_past, n_Desk_future, n_Desk_blocks, n_Desk_known⟩
  have g_len : mg "len" = none := PySem.W.mg_none_of X G z_len
  have g_range : mg "range" = none := PySem.W.mg_none_of X G z_range
  have g_all : mg "all" = none := PySem.W.mg_none_of X G z_all
  have g_set : mg "set" = none := PySem.W.mg_none_of X G z_set
  have g_sorted : mg "sorted" = none := PySem.W.mg_none_of X G z_sorted
  have g_tuple : mg "tuple" = none := PySem.W.mg_none_of X G z_tuple
  have g_abs : mg "abs" = none := PySem.W.mg_none_of X G z_abs
  have g_int : mg "int" = none := PySem.W.mg_none_of X G z_int
  have g_max : mg "max" = none := PySem.W.mg_none_of X G z_max
  have g_min : mg "min" = none := PySem.W.mg_none_of X G z_min
  have g_list : mg "list" = none := PySem.W.mg_none_of X G z_list
  have g_repr : mg "repr" = none := PySem.W.mg_none_of X G z_repr
  have g_super : mg "super" = none := PySem.W.mg_none_of X G z_super
  have k_MOST_STARS : ∃ t, mg "MOST_STARS" = some (.int 20 t) := ⟨_, PySem.W.mg_of X G zk_MOST_STARS⟩
  have e_InvalidSky : Ex0 K mg "InvalidSky" cI := ⟨⟨_, PySem.F.excBase_ValueError, xi_InvalidSky⟩, PySem.W.mg_of X G aC_InvalidSky, kc_InvalidSky, eb_InvalidSky, ty_InvalidSky⟩
  have T_UnknownStar : OexC K cU := ⟨⟨_, _, _, _, _, _, _, _, _, _, _, _, _, _, _, xl_UnknownStar, (show PySem.HandSPX.refsVE [.type "ValueError", .type "Exception", .type "BaseException", .type "object"] = true by decide +kernel)⟩, sa_UnknownStar, eb_UnknownStar, ty_UnknownStar, kc_UnknownStar⟩
  have dV0_UnknownStar : dV_UnknownStar = .none := dn_UnknownStar
  subst dV0_UnknownStar
  have e_UnknownStar : Ex1 P w K mg base 1 "UnknownStar" cU "number" := ⟨T_UnknownStar, PySem.W.mg_of X G aC_UnknownStar, ⟨_, _, _, xi_ok (fld := "number") (vn := "number") lk_UnknownStar cd_UnknownStar rfl rfl rfl (by decide +kernel) (by decide +kernel) (by decide +kernel) (by decide +kernel) (by decide +kernel) (by decide +kernel) (by decide) (by decide +kernel) (by decide +kernel) rfl rfl lc_UnknownStar vs_UnknownStar_2 fl_UnknownStar lx_UnknownStar g_super j_top (by decide +kernel) T_UnknownStar nf_UnknownStar opq su_UnknownStar sv_UnknownStar mr_UnknownStar (fun L => ⟨_, by rfl⟩) (fun L => by rfl), iC_UnknownStar, tf_UnknownStar_ty, .all (fun us hl => match us, hl with | [_, _], _ => rfl)⟩, ⟨ga_UnknownStar, gg_UnknownStar, eb_UnknownStar, hd_UnknownStar⟩, nf_UnknownStar⟩
  have T_StarTaken : OexC K cT := ⟨⟨_, _, _, _, _, _, _, _, _, _, _, _, _, _, _, xl_StarTaken, (show PySem.HandSPX.refsVE [.type "ValueError", .type "Exception", .type "BaseException", .type "object"] = true by decide +kernel)⟩, sa_StarTaken, eb_StarTaken, ty_StarTaken, kc_StarTaken⟩
  have dV0_StarTaken : dV_StarTaken = .none := dn_StarTaken
  subst dV0_StarTaken
  have e_StarTaken : Ex1 P w K mg base 1 "StarTaken" cT "star" := ⟨T_StarTaken, PySem.W.mg_of X G aC_StarTaken, ⟨_, _, _, xi_ok (fld := "star") (vn := "star") lk_StarTaken cd_StarTaken rfl rfl rfl (by decide +kernel) (by decide +kernel) (by decide +kernel) (by decide +kernel) (by decide +kernel) (by decide +kernel) (by decide) (by decide +kernel) (by decide +kernel) rfl rfl lc_StarTaken vs_StarTaken_2 fl_StarTaken lx_StarTaken g_super j_top (by decide +kernel) T_StarTaken nf_StarTaken opq su_StarTaken sv_StarTaken mr_StarTaken (fun L => ⟨_, by rfl⟩) (fun L => by rfl), iC_StarTaken, tf_StarTaken_ty, .all (fun us hl => match us, hl with | [_, _], _ => rfl)⟩, ⟨ga_StarTaken, gg_StarTaken, eb_StarTaken, hd_StarTaken⟩, nf_StarTaken⟩
  have T_InvalidMotion : OexC K cM := ⟨⟨_, _, _, _, _, _, _, _, _, _, _, _, _, _, _, xl_InvalidMotion, (show PySem.HandSPX.refsVE [.type "ValueError", .type "Exception", .type "BaseException", .type "object"] = true by decide +kernel)⟩, sa_InvalidMotion, eb_InvalidMotion, ty_InvalidMotion, kc_InvalidMotion⟩
  have dV0_InvalidMotion : dV_InvalidMotion = .none := dn_InvalidMotion
  subst dV0_InvalidMotion
  have e_InvalidMotion : Ex1 P w K mg base 1 "InvalidMotion" cM "motion" := ⟨T_InvalidMotion, PySem.W.mg_of X G aC_InvalidMotion, ⟨_, _, _, xi_ok (fld := "motion") (vn := "motion") lk_InvalidMotion cd_InvalidMotion rfl rfl rfl (by decide +kernel) (by decide +kernel) (by decide +kernel) (by decide +kernel) (by decide +kernel) (by decide +kernel) (by decide) (by decide +kernel) (by decide +kernel) rfl rfl lc_InvalidMotion vs_InvalidMotion_2 fl_InvalidMotion lx_InvalidMotion g_super j_top (by decide +kernel) T_InvalidMotion nf_InvalidMotion opq su_InvalidMotion sv_InvalidMotion mr_InvalidMotion (fun L => ⟨_, by rfl⟩) (fun L => by rfl), iC_InvalidMotion, tf_InvalidMotion_ty, .all (fun us hl => match us, hl with | [_, _], _ => rfl)⟩, ⟨ga_InvalidMotion, gg_InvalidMotion, eb_InvalidMotion, hd_InvalidMotion⟩, nf_InvalidMotion⟩
  have e_NothingToUndo : Ex0 K mg "NothingToUndo" cNU := ⟨⟨_, PySem.F.excBase_ValueError, xi_NothingToUndo⟩, PySem.W.mg_of X G aC_NothingToUndo, kc_NothingToUndo, eb_NothingToUndo, ty_NothingToUndo⟩
  have e_NothingToRedo : Ex0 K mg "NothingToRedo" cNR := ⟨⟨_, PySem.F.excBase_ValueError, xi_NothingToRedo⟩, PySem.W.mg_of X G aC_NothingToRedo, kc_NothingToRedo, eb_NothingToRedo, ty_NothingToRedo⟩
  have xd : ExmD K cT cU cM cI := ⟨xm_StarTaken_StarTaken, xm_UnknownStar_StarTaken, xm_UnknownStar_UnknownStar, xm_InvalidMotion_StarTaken, xm_InvalidMotion_UnknownStar, xm_InvalidMotion_InvalidMotion, xm_InvalidSky_StarTaken, xm_InvalidSky_UnknownStar, xm_InvalidSky_InvalidMotion, xm_InvalidSky_InvalidSky⟩
  have xu : ExmU K cNU cNR := ⟨xm_NothingToUndo_NothingToUndo, xm_NothingToRedo_NothingToUndo, xm_NothingToRedo_NothingToRedo⟩
  have F_is_camera := fun_mk (st := s_is_camera) l_is_camera c_is_camera k_is_camera
  have b_is_camera := F_is_camera.binds (ps := ["side", "camera"]) fun _ _ _ _ _ _ us hl => match us, hl with | [_, _], _ => rfl
  have h_is_camera : DefN P w K mg base 1 "is_camera" (spF K R_is_camera) := ⟨_, _, _, f_is_camera F_is_camera (g_len := g_len), PySem.W.mg_of X G q_is_camera, k_is_camera, b_is_camera⟩
  have F_is_star := fun_mk (st := s_is_star) l_is_star c_is_star k_is_star
  have b_is_star := F_is_star.binds (ps := ["side", "star"]) fun _ _ _ _ _ _ us hl => match us, hl with | [_, _], _ => rfl
  have h_is_star : DefN P w K mg base 1 "is_star" (spF K R_is_star) := ⟨_, _, _, f_is_star F_is_star (g_len := g_len), PySem.W.mg_of X G q_is_star, k_is_star, b_is_star⟩
  have F_is_motion := fun_mk (st := s_is_motion) l_is_motion c_is_motion k_is_motion
  have b_is_motion := F_is_motion.binds (ps := ["side", "motion"]) fun _ _ _ _ _ _ us hl => match us, hl with | [_, _], _ => rfl
  have h_is_motion : DefN P w K mg base 1 "is_motion" (spF K R_is_motion) := ⟨_, _, _, f_is_motion F_is_motion (g_len := g_len), PySem.W.mg_of X G q_is_motion, k_is_motion, b_is_motion⟩
  have F_moved_place := fun_mk (st := s_moved_place) l_moved_place c_moved_place k_moved_place
  have b_moved_place := F_moved_place.binds (ps := ["side", "place", "motion"]) fun _ _ _ _ _ _ us hl => match us, hl with | [_, _, _], _ => rfl
  have h_moved_place : DefN P w K mg base 1 "moved_place" (spF K R_moved_place) := ⟨_, _, _, f_moved_place F_moved_place (g_range := g_range), PySem.W.mg_of X G q_moved_place, k_moved_place, b_moved_place⟩
  have F_Sky___init__ := fun_mk (st := s_Sky___init__) l_Sky___init__ c_Sky___init__ k_Sky___init__
  have b_Sky___init__ := F_Sky___init__.binds (ps := ["self", "side", "stars", "camera"]) fun _ _ _ _ _ _ us hl => match us, hl with | [_, _, _, _], _ => rfl
  have c_Sky : ClsN P w K mg base 2 "Sky" cS (spM K cS (R_Sky_init cI)) := ⟨_, _, _, f_Sky_init F_Sky___init__ (g_len := g_len) (g_all := g_all) (g_set := g_set) (g_sorted := g_sorted) (g_tuple := g_tuple) (k_MOST_STARS := k_MOST_STARS) (e_InvalidSky := e_InvalidSky) (h_is_camera := h_is_camera) (h_is_star := h_is_star) (sk := sk), ⟨mk_Sky, q_Sky___init__, i_Sky___init__, kc_Sky⟩, mgC_Sky, b_Sky___init__⟩
  have F_Sky_side := fun_mk (st := s_Sky_side) l_Sky_side c_Sky_side k_Sky_side
  have b_Sky_side := F_Sky_side.binds (ps := ["self"]) fun _ _ _ _ _ _ us hl => match us, hl with | [_], _ => rfl
  have p_Sky_side : PrpN P w K mg base 1 cS "side" (spF K (R_Sky_side cS)) := ⟨cl_Sky, _, _, _, _, f_Sky_side F_Sky_side (sk := sk), ⟨q_Sky_side, g_Sky_side, t_Sky_side, _, r_Sky_side⟩, b_Sky_side⟩
  have F_Sky_stars := fun_mk (st := s_Sky_stars) l_Sky_stars c_Sky_stars k_Sky_stars
  have b_Sky_stars := F_Sky_stars.binds (ps := ["self"]) fun _ _ _ _ _ _ us hl => match us, hl with | [_], _ => rfl
  have p_Sky_stars : PrpN P w K mg base 1 cS "stars" (spF K (R_Sky_stars cS)) := ⟨cl_Sky, _, _, _, _, f_Sky_stars F_Sky_stars (sk := sk), ⟨q_Sky_stars, g_Sky_stars, t_Sky_stars, _, r_Sky_stars⟩, b_Sky_stars⟩
  have F_Sky_camera := fun_mk (st := s_Sky_camera) l_Sky_camera c_Sky_camera k_Sky_camera
  have b_Sky_camera := F_Sky_camera.binds (ps := ["self"]) fun _ _ _ _ _ _ us hl => match us, hl with | [_], _ => rfl
  have p_Sky_camera : PrpN P w K mg base 1 cS "camera" (spF K (R_Sky_camera cS)) := ⟨cl_Sky, _, _, _, _, f_Sky_camera F_Sky_camera (sk := sk), ⟨q_Sky_camera, g_Sky_camera, t_Sky_camera, _, r_Sky_camera⟩, b_Sky_camera⟩
  have F_Sky_star_at := fun_mk (st := s_Sky_star_at) l_Sky_star_at c_Sky_star_at k_Sky_star_at
  have b_Sky_star_at := F_Sky_star_at.binds (ps := ["self", "number"]) fun _ _ _ _ _ _ us hl => match us, hl with | [_, _], _ => rfl
  have m_Sky_star_at : MthN P w K mg base 4 cS "star_at" (spF K (R_star_at cS cU)) := ⟨cl_Sky, _, _, _, f_star_at F_Sky_star_at (sk := sk) (g_len := g_len) (e_UnknownStar := e_UnknownStar), ⟨q_Sky_star_at, i_Sky_star_at, k_Sky_star_at⟩, b_Sky_star_at⟩
  have F_Sky_with_star := fun_mk (st := s_Sky_with_star) l_Sky_with_star c_Sky_with_star k_Sky_with_star
  have b_Sky_with_star := F_Sky_with_star.binds (ps := ["self", "star"]) fun _ _ _ _ _ _ us hl => match us, hl with | [_, _], _ => rfl
  have m_Sky_with_star : MthN P w K mg base 4 cS "with_star" (spF K (R_with_star cS cI cT)) := ⟨cl_Sky, _, _, _, f_with_star F_Sky_with_star (sk := sk) (e_StarTaken := e_StarTaken) (c_Sky := c_Sky), ⟨q_Sky_with_star, i_Sky_with_star, k_Sky_with_star⟩, b_Sky_with_star⟩
  have F_Sky_with_camera := fun_mk (st := s_Sky_with_camera) l_Sky_with_camera c_Sky_with_camera k_Sky_with_camera
  have b_Sky_with_camera := F_Sky_with_camera.binds (ps := ["self", "camera"]) fun _ _ _ _ _ _ us hl => match us, hl with | [_, _], _ => rfl
  have m_Sky_with_camera : MthN P w K mg base 4 cS "with_camera" (spF K (R_with_camera cS cI)) := ⟨cl_Sky, _, _, _, f_with_camera F_Sky_with_camera (sk := sk) (c_Sky := c_Sky), ⟨q_Sky_with_camera, i_Sky_with_camera, k_Sky_with_camera⟩, b_Sky_with_camera⟩
  have F_Sky_without_star := fun_mk (st := s_Sky_without_star) l_Sky_without_star c_Sky_without_star k_Sky_without_star
  have b_Sky_without_star := F_Sky_without_star.binds (ps := ["self", "number"]) fun _ _ _ _ _ _ us hl => match us, hl with | [_, _], _ => rfl
  have m_Sky_without_star : MthN P w K mg base 5 cS "without_star" (spF K (R_without_star cS cI cU)) := ⟨cl_Sky, _, _, _, f_without_star F_Sky_without_star (sk := sk) (c_Sky := c_Sky) (m_Sky_star_at := m_Sky_star_at), ⟨q_Sky_without_star, i_Sky_without_star, k_Sky_without_star⟩, b_Sky_without_star⟩
  have F_Sky_moved := fun_mk (st := s_Sky_moved) l_Sky_moved c_Sky_moved k_Sky_moved
  have b_Sky_moved := F_Sky_moved.binds (ps := ["self", "motion"]) fun _ _ _ _ _ _ us hl => match us, hl with | [_, _], _ => rfl
  have m_Sky_moved : MthN P w K mg base 4 cS "moved" (spF K (R_moved cS cI cM)) := ⟨cl_Sky, _, _, _, f_moved F_Sky_moved (sk := sk) (c_Sky := c_Sky) (e_InvalidMotion := e_InvalidMotion) (h_is_motion := h_is_motion) (h_moved_place := h_moved_place), ⟨q_Sky_moved, i_Sky_moved, k_Sky_moved⟩, b_Sky_moved⟩
  have F_Desk___init__ := fun_mk (st := s_Desk___init__) l_Desk___init__ c_Desk___init__ k_Desk___init__
  have b_Desk___init__ := F_Desk___init__.binds (ps := ["self", "sky"]) fun _ _ _ _ _ _ us hl => match us, hl with | [_, _], _ => rfl
  have c_Desk : ClsN P w K mg base 1 "Desk" cD (spM K cD (R_Desk_init cS)) := ⟨_, _, _, f_Desk_init F_Desk___init__ (dk := dk), ⟨mk_Desk, q_Desk___init__, i_Desk___init__, kc_Desk⟩, mgC_Desk, b_Desk___init__⟩
  have F_Desk_sky_now := fun_mk (st := s_Desk_sky_now) l_Desk_sky_now c_Desk_sky_now k_Desk_sky_now
  have b_Desk_sky_now := F_Desk_sky_now.binds (ps := ["self"]) fun _ _ _ _ _ _ us hl => match us, hl with | [_], _ => rfl
  have m_Desk_sky_now : MthN P w K mg base 1 cD "sky_now" (spM K cD (R_sky_now cS)) := ⟨cl_Desk, _, _, _, f_sky_now F_Desk_sky_now (dk := dk), ⟨q_Desk_sky_now, i_Desk_sky_now, k_Desk_sky_now⟩, b_Desk_sky_now⟩
  have F_Desk_change_to := fun_mk (st := s_Desk_change_to) l_Desk_change_to c_Desk_change_to k_Desk_change_to
  have b_Desk_change_to := F_Desk_change_to.binds (ps := ["self", "sky"]) fun _ _ _ _ _ _ us hl => match us, hl with | [_, _], _ => rfl
  have m_Desk_change_to : MthN P w K mg base 1 cD "change_to" (spM K cD (R_change_to cS)) := ⟨cl_Desk, _, _, _, f_change_to F_Desk_change_to (dk := dk), ⟨q_Desk_change_to, i_Desk_change_to, k_Desk_change_to⟩, b_Desk_change_to⟩
  have F_Desk_put_star := fun_mk (st := s_Desk_put_star) l_Desk_put_star c_Desk_put_star k_Desk_put_star
  have b_Desk_put_star := F_Desk_put_star.binds (ps := ["self", "star"]) fun _ _ _ _ _ _ us hl => match us, hl with | [_, _], _ => rfl
  have m_Desk_put_star : MthN P w K mg base 5 cD "put_star" (spM K cD (R_chg cS (R_with_star cS cI cT))) := ⟨cl_Desk, _, _, _, f_put_star F_Desk_put_star (dk := dk) (m_Desk_change_to := m_Desk_change_to) (m_Sky_with_star := m_Sky_with_star), ⟨q_Desk_put_star, i_Desk_put_star, k_Desk_put_star⟩, b_Desk_put_star⟩
  have F_Desk_drop_star := fun_mk (st := s_Desk_drop_star) l_Desk_drop_star c_Desk_drop_star k_Desk_drop_star
  have b_Desk_drop_star := F_Desk_drop_star.binds (ps := ["self", "number"]) fun _ _ _ _ _ _ us hl => match us, hl with | [_, _], _ => rfl
  have m_Desk_drop_star : MthN P w K mg base 6 cD "drop_star" (spM K cD (R_chg cS (R_without_star cS cI cU))) := ⟨cl_Desk, _, _, _, f_drop_star F_Desk_drop_star (dk := dk) (m_Desk_change_to := m_Desk_change_to) (m_Sky_without_star := m_Sky_without_star), ⟨q_Desk_drop_star, i_Desk_drop_star, k_Desk_drop_star⟩, b_Desk_drop_star⟩
  have F_Desk_set_camera := fun_mk (st := s_Desk_set_camera) l_Desk_set_camera c_Desk_set_camera k_Desk_set_camera
  have b_Desk_set_camera := F_Desk_set_camera.binds (ps := ["self", "camera"]) fun _ _ _ _ _ _ us hl => match us, hl with | [_, _], _ => rfl
  have m_Desk_set_camera : MthN P w K mg base 5 cD "set_camera" (spM K cD (R_chg cS (R_with_camera cS cI))) := ⟨cl_Desk, _, _, _, f_set_camera F_Desk_set_camera (dk := dk) (m_Desk_change_to := m_Desk_change_to) (m_Sky_with_camera := m_Sky_with_camera), ⟨q_Desk_set_camera, i_Desk_set_camera, k_Desk_set_camera⟩, b_Desk_set_camera⟩
  have F_Desk_move_sky := fun_mk (st := s_Desk_move_sky) l_Desk_move_sky c_Desk_move_sky k_Desk_move_sky
  have b_Desk_move_sky := F_Desk_move_sky.binds (ps := ["self", "motion"]) fun _ _ _ _ _ _ us hl => match us, hl with | [_, _], _ => rfl
  have m_Desk_move_sky : MthN P w K mg base 5 cD "move_sky" (spM K cD (R_chg cS (R_moved cS cI cM))) := ⟨cl_Desk, _, _, _, f_move_sky F_Desk_move_sky (dk := dk) (m_Desk_change_to := m_Desk_change_to) (m_Sky_moved := m_Sky_moved), ⟨q_Desk_move_sky, i_Desk_move_sky, k_Desk_move_sky⟩, b_Desk_move_sky⟩
  have F_Desk_undo := fun_mk (st := s_Desk_undo) l_Desk_undo c_Desk_undo k_Desk_undo
  have b_Desk_undo := F_Desk_undo.binds (ps := ["self"]) fun _ _ _ _ _ _ us hl => match us, hl with | [_], _ => rfl
  have m_Desk_undo : MthN P w K mg base 1 cD "undo" (spM K cD (R_undo cS cNU)) := ⟨cl_Desk, _, _, _, f_undo F_Desk_undo (dk := dk) (g_len := g_len) (e_NothingToUndo := e_NothingToUndo), ⟨q_Desk_undo, i_Desk_undo, k_Desk_undo⟩, b_Desk_undo⟩
  have F_Desk_redo := fun_mk (st := s_Desk_redo) l_Desk_redo c_Desk_redo k_Desk_redo
  have b_Desk_redo := F_Desk_redo.binds (ps := ["self"]) fun _ _ _ _ _ _ us hl => match us, hl with | [_], _ => rfl
  have m_Desk_redo : MthN P w K mg base 1 cD "redo" (spM K cD (R_redo cS cNR)) := ⟨cl_Desk, _, _, _, f_redo F_Desk_redo (dk := dk) (g_len := g_len) (e_NothingToRedo := e_NothingToRedo), ⟨q_Desk_redo, i_Desk_redo, k_Desk_redo⟩, b_Desk_redo⟩
  have F__law_row := fun_mk (st := s__law_row) l__law_row c__law_row k__law_row
  have b__law_row := F__law_row.binds (ps := ["_law_cell", "_law_many"]) fun _ _ _ _ _ _ us hl => match us, hl with | [_, _], _ => rfl
  have h__law_row : DefN P w K mg base 1 "_law_row" (spF K R_row) := ⟨_, _, _, f_row F__law_row (g_abs := g_abs) (g_int := g_int) (g_range := g_range), PySem.W.mg_of X G q__law_row, k__law_row, b__law_row⟩
  have F__law_numbers := fun_mk (st := s__law_numbers) l__law_numbers c__law_numbers k__law_numbers
  have b__law_numbers := F__law_numbers.binds (ps := ["_law_script", "_law_many"]) fun _ _ _ _ _ _ us hl => match us, hl with | [_, _], _ => rfl
  have h__law_numbers : DefN P w K mg base 2 "_law_numbers" (spF K R_numbers) := ⟨_, _, _, f_numbers F__law_numbers (g_len := g_len) (g_max := g_max) (h__law_row := h__law_row), PySem.W.mg_of X G q__law_numbers, k__law_numbers, b__law_numbers⟩
  have F__law_parts := fun_mk (st := s__law_parts) l__law_parts c__law_parts k__law_parts
  have b__law_parts := F__law_parts.binds (ps := ["_law_numbers_here", "_law_at", "_law_most"]) fun _ _ _ _ _ _ us hl => match us, hl with | [_, _, _], _ => rfl
  have h__law_parts : DefN P w K mg base 1 "_law_parts" (spF K R_parts) := ⟨_, _, _, f_parts F__law_parts (g_int := g_int) (g_min := g_min) (g_range := g_range) (g_sorted := g_sorted), PySem.W.mg_of X G q__law_parts, k__law_parts, b__law_parts⟩
  have F__law_turn := fun_mk (st := s__law_turn) l__law_turn c__law_turn k__law_turn
  have b__law_turn := F__law_turn.binds (ps := ["_law_quarter", "_law_pair"]) fun _ _ _ _ _ _ us hl => match us, hl with | [_, _], _ => rfl
  have h__law_turn : DefN P w K mg base 1 "_law_turn" (spF K R_turn) := ⟨_, _, _, f_turn F__law_turn , PySem.W.mg_of X G q__law_turn, k__law_turn, b__law_turn⟩
  have F__law_moved := fun_mk (st := s__law_moved) l__law_moved c__law_moved k__law_moved
  have b__law_moved := F__law_moved.binds (ps := ["_law_side", "_law_star", "_law_motion"]) fun _ _ _ _ _ _ us hl => match us, hl with | [_, _, _], _ => rfl
  have h__law_moved : DefN P w K mg base 2 "_law_moved" (spF K R_lmoved) := ⟨_, _, _, f_lmoved F__law_moved (g_int := g_int) (h__law_turn := h__law_turn), PySem.W.mg_of X G q__law_moved, k__law_moved, b__law_moved⟩
  have F__law_is_camera := fun_mk (st := s__law_is_camera) l__law_is_camera c__law_is_camera k__law_is_camera
  have b__law_is_camera := F__law_is_camera.binds (ps := ["_law_side", "_law_camera"]) fun _ _ _ _ _ _ us hl => match us, hl with | [_, _], _ => rfl
  have h__law_is_camera : DefN P w K mg base 1 "_law_is_camera" (spF K R_is_camera) := ⟨_, _, _, f_lcam F__law_is_camera , PySem.W.mg_of X G q__law_is_camera, k__law_is_camera, b__law_is_camera⟩
  have F__law_behind := fun_mk (st := s__law_behind) l__law_behind c__law_behind k__law_behind
  have b__law_behind := F__law_behind.binds (ps := ["_law_parts_here", "_law_deed_here"]) fun _ _ _ _ _ _ us hl => match us, hl with | [_, _], _ => rfl
  have h__law_behind : DefN P w K mg base 3 "_law_behind" (spF K R_behind) := ⟨_, _, _, f_behind F__law_behind (g_len := g_len) (g_sorted := g_sorted) (h__law_is_camera := h__law_is_camera) (h__law_moved := h__law_moved), PySem.W.mg_of X G q__law_behind, k__law_behind, b__law_behind⟩
  have F__law_deed := fun_mk (st := s__law_deed) l__law_deed c__law_deed k__law_deed
  have b__law_deed := F__law_deed.binds (ps := ["_law_parts_here", "_law_numbers_here", "_law_at"]) fun _ _ _ _ _ _ us hl => match us, hl with | [_, _, _], _ => rfl
  have h__law_deed : DefN P w K mg base 1 "_law_deed" (spF K R_deed) := ⟨_, _, _, f_deed F__law_deed (g_len := g_len) (g_int := g_int) (g_range := g_range), PySem.W.mg_of X G q__law_deed, k__law_deed, b__law_deed⟩
  have F__law_told := fun_mk (st := s__law_told) l__law_told c__law_told k__law_told
  have b__law_told := F__law_told.binds (ps := ["_law_desk"]) fun _ _ _ _ _ _ us hl => match us, hl with | [_], _ => rfl
  have h__law_told : DefN P w K mg base 3 "_law_told" (spM K cD (R_told cS)) := ⟨_, _, _, f_told F__law_told (g_list := g_list) (m_Desk_sky_now := m_Desk_sky_now) (p_Sky_side := p_Sky_side) (p_Sky_stars := p_Sky_stars) (p_Sky_camera := p_Sky_camera), PySem.W.mg_of X G q__law_told, k__law_told, b__law_told⟩
  have F__law_do := fun_mk (st := s__law_do) l__law_do c__law_do k__law_do
  have b__law_do := F__law_do.binds (ps := ["_law_desk", "_law_deed_here"]) fun _ _ _ _ _ _ us hl => match us, hl with | [_, _], _ => rfl
  have h__law_do : DefN P w K mg base 7 "_law_do" (spM K cD (R_do cS)) := ⟨_, _, _, f_do F__law_do (m_Desk_put_star := m_Desk_put_star) (m_Desk_drop_star := m_Desk_drop_star) (m_Desk_set_camera := m_Desk_set_camera) (m_Desk_move_sky := m_Desk_move_sky) (e_StarTaken := e_StarTaken) (e_UnknownStar := e_UnknownStar) (e_InvalidMotion := e_InvalidMotion) (e_InvalidSky := e_InvalidSky) (xd := xd), PySem.W.mg_of X G q__law_do, k__law_do, b__law_do⟩
  have F__law_can := fun_mk (st := s__law_can) l__law_can c__law_can k__law_can
  have b__law_can := F__law_can.binds (ps := ["_law_desk", "_law_word"]) fun _ _ _ _ _ _ us hl => match us, hl with | [_, _], _ => rfl
  have h__law_can : DefN P w K mg base 2 "_law_can" (spM K cD (R_can cS)) := ⟨_, _, _, f_can F__law_can (m_Desk_undo := m_Desk_undo) (m_Desk_redo := m_Desk_redo) (e_NothingToUndo := e_NothingToUndo) (e_NothingToRedo := e_NothingToRedo) (xu := xu), PySem.W.mg_of X G q__law_can, k__law_can, b__law_can⟩
  have F__law_ways := fun_mk (st := s__law_ways) l__law_ways c__law_ways k__law_ways
  have b__law_ways := F__law_ways.binds (ps := ["_law_desk"]) fun _ _ _ _ _ _ us hl => match us, hl with | [_], _ => rfl
  have h__law_ways : DefN P w K mg base 4 "_law_ways" (spM K cD (R_ways cS)) := ⟨_, _, _, f_ways F__law_ways (g_len := g_len) (g_range := g_range) (m_Desk_undo := m_Desk_undo) (m_Desk_redo := m_Desk_redo) (h__law_can := h__law_can) (h__law_told := h__law_told), PySem.W.mg_of X G q__law_ways, k__law_ways, b__law_ways⟩
  have F_law := fun_mk (st := s_law) l_law c_law k_law
  have F_Desk_change_all := fun_mk (st := s_Desk_change_all) l_Desk_change_all c_Desk_change_all k_Desk_change_all
  have b_Desk_change_all := F_Desk_change_all.binds (ps := ["self", "deeds"]) fun _ _ _ _ _ _ us hl => match us, hl with | [_, _], _ => rfl
  have m_Desk_change_all__z : MthN P w K mg base 6 cD "change_all" (spM K cD (fun _ _ _ _ => False)) := ⟨cl_Desk, _, _, _, f_all__z F_Desk_change_all , ⟨q_Desk_change_all, i_Desk_change_all, k_Desk_change_all⟩, b_Desk_change_all⟩
  have F_Desk_make := fun_mk (st := s_Desk_make) l_Desk_make c_Desk_make k_Desk_make
  have b_Desk_make := F_Desk_make.binds (ps := ["self", "deed"]) fun _ _ _ _ _ _ us hl => match us, hl with | [_, _], _ => rfl
  have m_Desk_make__0 : MthN P w K mg base 7 cD "make" (spM K cD (RM0 cS cI cU cT cM)) := ⟨cl_Desk, _, _, _, f_make__0 F_Desk_make (m_Desk_put_star := m_Desk_put_star) (m_Desk_drop_star := m_Desk_drop_star) (m_Desk_set_camera := m_Desk_set_camera) (m_Desk_move_sky := m_Desk_move_sky) (m_Desk_change_all__z := m_Desk_change_all__z), ⟨q_Desk_make, i_Desk_make, k_Desk_make⟩, b_Desk_make⟩
  have m_Desk_change_all__0 : MthN P w K mg base 8 cD "change_all" (spM K cD (RA0 cS cI cU cT cM)) := ⟨cl_Desk, _, _, _, f_all__0 F_Desk_change_all (dk := dk) (c_Desk := c_Desk) (m_Desk_make__0 := m_Desk_make__0), ⟨q_Desk_change_all, i_Desk_change_all, k_Desk_change_all⟩, b_Desk_change_all⟩
  have m_Desk_make__1 : MthN P w K mg base 9 cD "make" (spM K cD (RM1 cS cI cU cT cM)) := ⟨cl_Desk, _, _, _, f_make__1 F_Desk_make (m_Desk_put_star := m_Desk_put_star) (m_Desk_drop_star := m_Desk_drop_star) (m_Desk_set_camera := m_Desk_set_camera) (m_Desk_move_sky := m_Desk_move_sky) (m_Desk_change_all__0 := m_Desk_change_all__0), ⟨q_Desk_make, i_Desk_make, k_Desk_make⟩, b_Desk_make⟩
  have m_Desk_change_all__1 : MthN P w K mg base 10 cD "change_all" (spM K cD (RA1 cS cI cU cT cM)) := ⟨cl_Desk, _, _, _, f_all__1 F_Desk_change_all (dk := dk) (c_Desk := c_Desk) (m_Desk_make__1 := m_Desk_make__1), ⟨q_Desk_change_all, i_Desk_change_all, k_Desk_change_all⟩, b_Desk_change_all⟩
  have m_Desk_make__2 : MthN P w K mg base 11 cD "make" (spM K cD (RM2 cS cI cU cT cM)) := ⟨cl_Desk, _, _, _, f_make__2 F_Desk_make (m_Desk_put_star := m_Desk_put_star) (m_Desk_drop_star := m_Desk_drop_star) (m_Desk_set_camera := m_Desk_set_camera) (m_Desk_move_sky := m_Desk_move_sky) (m_Desk_change_all__1 := m_Desk_change_all__1), ⟨q_Desk_make, i_Desk_make, k_Desk_make⟩, b_Desk_make⟩
  have m_Desk_change_all__2 : MthN P w K mg base 12 cD "change_all" (spM K cD (RA2 cS cI cU cT cM)) := ⟨cl_Desk, _, _, _, f_all__2 F_Desk_change_all (dk := dk) (c_Desk := c_Desk) (m_Desk_make__2 := m_Desk_make__2), ⟨q_Desk_change_all, i_Desk_change_all, k_Desk_change_all⟩, b_Desk_change_all⟩
  have F__law_all := fun_mk (st := s__law_all) l__law_all c__law_all k__law_all
  have b__law_all := F__law_all.binds (ps := ["_law_desk", "_law_deeds"]) fun _ _ _ _ _ _ us hl => match us, hl with | [_, _], _ => rfl
  have h__law_all : DefN P w K mg base 13 "_law_all" (spM K cD (RL cS cI cU cT cM)) := ⟨_, _, _, f_lall_ F__law_all (m_Desk_change_all__2 := m_Desk_change_all__2) (e_StarTaken := e_StarTaken) (e_UnknownStar := e_UnknownStar) (e_InvalidMotion := e_InvalidMotion) (e_InvalidSky := e_InvalidSky) (xd := xd), PySem.W.mg_of X G q__law_all, k__law_all, b__law_all⟩
  exact f_law F_law (g_int := g_int) (g_len := g_len) (g_range := g_range) (g_list := g_list) (g_repr := g_repr) (c_Desk := c_Desk) (c_Sky := c_Sky) (h__law_behind := h__law_behind) (h__law_deed := h__law_deed) (h__law_do := h__law_do) (h__law_numbers := h__law_numbers) (h__law_parts := h__law_parts) (h__law_told := h__law_told) (h__law_can := h__law_can) (h__law_ways := h__law_ways) (h__law_all := h__law_all) (m_Desk_sky_now := m_Desk_sky_now) (m_Desk_undo := m_Desk_undo) (p_Sky_stars := p_Sky_stars) (p_Sky_camera := p_Sky_camera)
theorem walk {l : PySem.W.OpenLaw} {q : Program} {loose : List Str} {XP : (Str → Option Value) → Heap → Prop} {YP : World → Heap → Prop} {d : DefRec} {K : Params → PySem.W.Frag} (hn : l.most = some 63) (hdf : d.params.defaults = [])
    (hY : ∀ (w : World) (h : Heap), YP w h → (K w.params).In h)
    (F : ∀ (w : World) (mg : Str → Option Value) (fa : Addr) (h : Heap), (K w.params).In h → h.Ns mainGlobals mg → mg d.name = some (.ref fa) →
      ∃ fd : FuncData, (∀ (s : Shared) (u : Value), BindsTo s fd ⟨[u], []⟩ [("_law_script", u)]) ∧ ∀ base : Heap, (K w.params).In base → base.Ns mainGlobals mg → FnOkG l.prog w (K w.params) mg base (L2.CX l.prog w) 14 fa fd ["_law_script"] (spF (K w.params) R_law)) :
    PySem.W.WalkO q loose XP YP l.row.toRowW d [] (fun f vs => PySem.call f vs) :=
  walkG (n := 63) (k := 14) (x := "_law_script") (sp := fun w => spF (K w.params) R_law) hn (by decide) hdf ⟨rfl, by decide, by decide⟩ hY F
    (fun w H a ns hl hO hS => law_in (K := K w.params) (R := R_law) ⟨ns, rfl, hl, rfl⟩ hS)
end DL

open PySem PySem.W PyProof.Rows
set_option maxRecDepth 100000 in
set_option maxHeartbeats 0 in
theorem PySem.Challenge.cw_starward_k62_all_changes_or_none_holds : PySem.Challenge.rw_starward_k62_all_changes_or_none.Holds := by
  w_on; o_law; k_head; (case hw => w_witness2)
  k_fill
  refine DL.walk (l := PySem.Challenge.rw_starward_k62_all_changes_or_none) rfl rfl (fun w h Y => PySem.W.kIn_of Y) ?F
  case F =>
    intro w mg fa h KX G hmg
    refine' DL.all_mk KX G hmg (by rfl) ?aC_Sky ?pg_Sky ?hd_Sky ?po_Sky ?sa_Sky ?mk_Sky ?kc_Sky ?n_Sky__side ?n_Sky__stars ?n_Sky__camera ?aC_Desk ?pg_Desk ?hd_Desk ?po_Desk ?sa_Desk ?mk_Desk ?kc_Desk ?n_Desk_state ?n_Desk_past ?n_Desk_future ?n_Desk_blocks ?n_Desk_known ?z_len ?z_range ?z_all ?z_set ?z_sorted ?z_tuple ?z_abs ?z_int ?z_max ?z_min ?z_list ?z_repr ?z_super ?zk_MOST_STARS ?opq ?aC_InvalidSky ?kc_InvalidSky ?eb_InvalidSky ?ty_InvalidSky ?is_InvalidSky ?xi_InvalidSky ?aC_UnknownStar ?kc_UnknownStar ?eb_UnknownStar ?ty_UnknownStar ?is_UnknownStar ?xl_UnknownStar ?sa_UnknownStar ?ga_UnknownStar ?gg_UnknownStar ?hd_UnknownStar ?nf_UnknownStar ?iC_UnknownStar ?tf_UnknownStar_ty ?lk_UnknownStar ?cd_UnknownStar ?lc_UnknownStar ?vs_UnknownStar_2 ?fl_UnknownStar ?lx_UnknownStar ?su_UnknownStar ?sv_UnknownStar ?mr_UnknownStar ?dn_UnknownStar ?aC_StarTaken ?kc_StarTaken ?eb_StarTaken ?ty_StarTaken ?is_StarTaken ?xl_StarTaken ?sa_StarTaken ?ga_StarTaken ?gg_StarTaken ?hd_StarTaken ?nf_StarTaken ?iC_StarTaken ?tf_StarTaken_ty ?lk_StarTaken ?cd_StarTaken ?lc_StarTaken ?vs_StarTaken_2 ?fl_StarTaken ?lx_StarTaken ?su_StarTaken ?sv_StarTaken ?mr_StarTaken ?dn_StarTaken ?aC_InvalidMotion ?kc_InvalidMotion ?eb_InvalidMotion ?ty_InvalidMotion ?is_InvalidMotion ?xl_InvalidMotion ?sa_InvalidMotion ?ga_InvalidMotion ?gg_InvalidMotion ?hd_InvalidMotion ?nf_InvalidMotion ?iC_InvalidMotion ?tf_InvalidMotion_ty ?lk_InvalidMotion ?cd_InvalidMotion ?lc_InvalidMotion ?vs_InvalidMotion_2 ?fl_InvalidMotion ?lx_InvalidMotion ?su_InvalidMotion ?sv_InvalidMotion ?mr_InvalidMotion ?dn_InvalidMotion ?aC_NothingToUndo ?kc_NothingToUndo ?eb_NothingToUndo ?ty_NothingToUndo ?is_NothingToUndo ?xi_NothingToUndo ?aC_NothingToRedo ?kc_NothingToRedo ?eb_NothingToRedo ?ty_NothingToRedo ?is_NothingToRedo ?xi_NothingToRedo ?xm_StarTaken_StarTaken ?xm_UnknownStar_StarTaken ?xm_UnknownStar_UnknownStar ?xm_InvalidMotion_StarTaken ?xm_InvalidMotion_UnknownStar ?xm_InvalidMotion_InvalidMotion ?xm_InvalidSky_StarTaken ?xm_InvalidSky_UnknownStar ?xm_InvalidSky_InvalidMotion ?xm_InvalidSky_InvalidSky ?xm_NothingToUndo_NothingToUndo ?xm_NothingToRedo_NothingToUndo ?xm_NothingToRedo_NothingToRedo ?q_is_camera ?l_is_camera ?c_is_camera ?k_is_camera ?q_is_star ?l_is_star ?c_is_star ?k_is_star ?q_is_motion ?l_is_motion ?c_is_motion ?k_is_motion ?q_moved_place ?l_moved_place ?c_moved_place ?k_moved_place ?q_Sky___init__ ?i_Sky___init__ ?l_Sky___init__ ?c_Sky___init__ ?k_Sky___init__ ?q_Sky_side ?g_Sky_side ?t_Sky_side ?r_Sky_side ?l_Sky_side ?c_Sky_side ?k_Sky_side ?q_Sky_stars ?g_Sky_stars ?t_Sky_stars ?r_Sky_stars ?l_Sky_stars ?c_Sky_stars ?k_Sky_stars ?q_Sky_camera ?g_Sky_camera ?t_Sky_camera ?r_Sky_camera ?l_Sky_camera ?c_Sky_camera ?k_Sky_camera ?q_Sky_star_at ?i_Sky_star_at ?l_Sky_star_at ?c_Sky_star_at ?k_Sky_star_at ?q_Sky_with_star ?i_Sky_with_star ?l_Sky_with_star ?c_Sky_with_star ?k_Sky_with_star ?q_Sky_with_camera ?i_Sky_with_camera ?l_Sky_with_camera ?c_Sky_with_camera ?k_Sky_with_camera ?q_Sky_without_star ?i_Sky_without_star ?l_Sky_without_star ?c_Sky_without_star ?k_Sky_without_star ?q_Sky_moved ?i_Sky_moved ?l_Sky_moved ?c_Sky_moved ?k_Sky_moved ?q_Desk___init__ ?i_Desk___init__ ?l_Desk___init__ ?c_Desk___init__ ?k_Desk___init__ ?q_Desk_sky_now ?i_Desk_sky_now ?l_Desk_sky_now ?c_Desk_sky_now ?k_Desk_sky_now ?q_Desk_change_to ?i_Desk_change_to ?l_Desk_change_to ?c_Desk_change_to ?k_Desk_change_to ?q_Desk_put_star ?i_Desk_put_star ?l_Desk_put_star ?c_Desk_put_star ?k_Desk_put_star ?q_Desk_drop_star ?i_Desk_drop_star ?l_Desk_drop_star ?c_Desk_drop_star ?k_Desk_drop_star ?q_Desk_set_camera ?i_Desk_set_camera ?l_Desk_set_camera ?c_Desk_set_camera ?k_Desk_set_camera ?q_Desk_move_sky ?i_Desk_move_sky ?l_Desk_move_sky ?c_Desk_move_sky ?k_Desk_move_sky ?q_Desk_undo ?i_Desk_undo ?l_Desk_undo ?c_Desk_undo ?k_Desk_undo ?q_Desk_redo ?i_Desk_redo ?l_Desk_redo ?c_Desk_redo ?k_Desk_redo ?q__law_row ?l__law_row ?c__law_row ?k__law_row ?q__law_numbers ?l__law_numbers ?c__law_numbers ?k__law_numbers ?q__law_parts ?l__law_parts ?c__law_parts ?k__law_parts ?q__law_turn ?l__law_turn ?c__law_turn ?k__law_turn ?q__law_moved ?l__law_moved ?c__law_moved ?k__law_moved ?q__law_is_camera ?l__law_is_camera ?c__law_is_camera ?k__law_is_camera ?q__law_behind ?l__law_behind ?c__law_behind ?k__law_behind ?q__law_deed ?l__law_deed ?c__law_deed ?k__law_deed ?q__law_told ?l__law_told ?c__law_told ?k__law_told ?q__law_do ?l__law_do ?c__law_do ?k__law_do ?q__law_can ?l__law_can ?c__law_can ?k__law_can ?q__law_ways ?l__law_ways ?c__law_ways ?k__law_ways ?q_law ?l_law ?c_law ?k_law ?q_Desk_change_all ?i_Desk_change_all ?l_Desk_change_all ?c_Desk_change_all ?k_Desk_change_all ?q_Desk_make ?i_Desk_make ?l_Desk_make ?c_Desk_make ?k_Desk_make ?q__law_all ?l__law_all ?c__law_all ?k__law_all
    (case aC_Sky => k_is)
    (case pg_Sky => k_is)
    (case hd_Sky => k_is)
    (case po_Sky => k_is)
    (case sa_Sky => k_is)
    (case mk_Sky => k_is)
    (case kc_Sky => k_is)
    (case n_Sky__side => k_is)
    (case n_Sky__stars => k_is)
    (case n_Sky__camera => k_is)
    (case aC_Desk => k_is)
    (case pg_Desk => k_is)
    (case hd_Desk => k_is)
    (case po_Desk => k_is)
    (case sa_Desk => k_is)
    (case mk_Desk => k_is)
    (case kc_Desk => k_is)
    (case n_Desk_state => k_is)
    (case n_Desk_past => k_is)
    (case n_Desk_future => k_is)
    (case n_Desk_blocks => k_is)
    (case n_Desk_known => k_is)
    (case z_len => k_is)
    (case z_range => k_is)
    (case z_all => k_is)
    (case z_set => k_is)
    (case z_sorted => k_is)
    (case z_tuple => k_is)
    (case z_abs => k_is)
    (case z_int => k_is)
    (case z_max => k_is)
    (case z_min => k_is)
    (case z_list => k_is)
    (case z_repr => k_is)
    (case z_super => k_is)
    (case zk_MOST_STARS => k_is)
    (case opq => k_is)
    (case aC_InvalidSky => k_is)
    (case kc_InvalidSky => k_is)
    (case eb_InvalidSky => k_is)
    (case ty_InvalidSky => k_is)
    (case is_InvalidSky => k_is)
    (case xi_InvalidSky => k_exc)
    (case aC_UnknownStar => k_is)
    (case kc_UnknownStar => k_is)
    (case eb_UnknownStar => k_is)
    (case ty_UnknownStar => k_is)
    (case is_UnknownStar => k_is)
    (case xl_UnknownStar => k_is)
    (case sa_UnknownStar => k_is)
    (case ga_UnknownStar => k_is)
    (case gg_UnknownStar => k_is)
    (case hd_UnknownStar => k_is)
    (case nf_UnknownStar => k_is)
    (case iC_UnknownStar => k_is)
    (case tf_UnknownStar_ty => k_is)
    (case lk_UnknownStar => k_is)
    (case cd_UnknownStar => k_is)
    (case lc_UnknownStar => k_is)
    (case vs_UnknownStar_2 => rfl)
    (case fl_UnknownStar => rfl)
    (case lx_UnknownStar => k_is)
    (case su_UnknownStar => rfl)
    (case sv_UnknownStar => k_is)
    (case mr_UnknownStar => k_is)
    (case dn_UnknownStar => rfl)
    (case aC_StarTaken => k_is)
    (case kc_StarTaken => k_is)
    (case eb_StarTaken => k_is)
    (case ty_StarTaken => k_is)
    (case is_StarTaken => k_is)
    (case xl_StarTaken => k_is)
    (case sa_StarTaken => k_is)
    (case ga_StarTaken => k_is)
    (case gg_StarTaken => k_is)
    (case hd_StarTaken => k_is)
    (case nf_StarTaken => k_is)
    (case iC_StarTaken => k_is)
    (case tf_StarTaken_ty => k_is)
    (case lk_StarTaken => k_is)
    (case cd_StarTaken => k_is)
    (case lc_StarTaken => k_is)
    (case vs_StarTaken_2 => rfl)
    (case fl_StarTaken => rfl)
    (case lx_StarTaken => k_is)
    (case su_StarTaken => rfl)
    (case sv_StarTaken => k_is)
    (case mr_StarTaken => k_is)
    (case dn_StarTaken => rfl)
    (case aC_InvalidMotion => k_is)
    (case kc_InvalidMotion => k_is)
    (case eb_InvalidMotion => k_is)
    (case ty_InvalidMotion => k_is)
    (case is_InvalidMotion => k_is)
    (case xl_InvalidMotion => k_is)
    (case sa_InvalidMotion => k_is)
    (case ga_InvalidMotion => k_is)
    (case gg_InvalidMotion => k_is)
    (case hd_InvalidMotion => k_is)
    (case nf_InvalidMotion => k_is)
    (case iC_InvalidMotion => k_is)
    (case tf_InvalidMotion_ty => k_is)
    (case lk_InvalidMotion => k_is)
    (case cd_InvalidMotion => k_is)
    (case lc_InvalidMotion => k_is)
    (case vs_InvalidMotion_2 => rfl)
    (case fl_InvalidMotion => rfl)
    (case lx_InvalidMotion => k_is)
    (case su_InvalidMotion => rfl)
    (case sv_InvalidMotion => k_is)
    (case mr_InvalidMotion => k_is)
    (case dn_InvalidMotion => rfl)
    (case aC_NothingToUndo => k_is)
    (case kc_NothingToUndo => k_is)
    (case eb_NothingToUndo => k_is)
    (case ty_NothingToUndo => k_is)
    (case is_NothingToUndo => k_is)
    (case xi_NothingToUndo => k_exc)
    (case aC_NothingToRedo => k_is)
    (case kc_NothingToRedo => k_is)
    (case eb_NothingToRedo => k_is)
    (case ty_NothingToRedo => k_is)
    (case is_NothingToRedo => k_is)
    (case xi_NothingToRedo => k_exc)
    (case xm_StarTaken_StarTaken => first | k_is | rfl)
    (case xm_UnknownStar_StarTaken => first | k_is | rfl)
    (case xm_UnknownStar_UnknownStar => first | k_is | rfl)
    (case xm_InvalidMotion_StarTaken => first | k_is | rfl)
    (case xm_InvalidMotion_UnknownStar => first | k_is | rfl)
    (case xm_InvalidMotion_InvalidMotion => first | k_is | rfl)
    (case xm_InvalidSky_StarTaken => first | k_is | rfl)
    (case xm_InvalidSky_UnknownStar => first | k_is | rfl)
    (case xm_InvalidSky_InvalidMotion => first | k_is | rfl)
    (case xm_InvalidSky_InvalidSky => first | k_is | rfl)
    (case xm_NothingToUndo_NothingToUndo => first | k_is | rfl)
    (case xm_NothingToRedo_NothingToUndo => first | k_is | rfl)
    (case xm_NothingToRedo_NothingToRedo => first | k_is | rfl)
    (case q_is_camera => k_is)
    (case l_is_camera => k_is)
    (case c_is_camera => k_is)
    (case k_is_camera => k_is)
    (case q_is_star => k_is)
    (case l_is_star => k_is)
    (case c_is_star => k_is)
    (case k_is_star => k_is)
    (case q_is_motion => k_is)
    (case l_is_motion => k_is)
    (case c_is_motion => k_is)
    (case k_is_motion => k_is)
    (case q_moved_place => k_is)
    (case l_moved_place => k_is)
    (case c_moved_place => k_is)
    (case k_moved_place => k_is)
    (case q_Sky___init__ => k_is)
    (case i_Sky___init__ => k_is)
    (case l_Sky___init__ => k_is)
    (case c_Sky___init__ => k_is)
    (case k_Sky___init__ => k_is)
    (case q_Sky_side => k_is)
    (case g_Sky_side => k_is)
    (case t_Sky_side => k_is)
    (case r_Sky_side => k_is)
    (case l_Sky_side => k_is)
    (case c_Sky_side => k_is)
    (case k_Sky_side => k_is)
    (case q_Sky_stars => k_is)
    (case g_Sky_stars => k_is)
    (case t_Sky_stars => k_is)
    (case r_Sky_stars => k_is)
    (case l_Sky_stars => k_is)
    (case c_Sky_stars => k_is)
    (case k_Sky_stars => k_is)
    (case q_Sky_camera => k_is)
    (case g_Sky_camera => k_is)
    (case t_Sky_camera => k_is)
    (case r_Sky_camera => k_is)
    (case l_Sky_camera => k_is)
    (case c_Sky_camera => k_is)
    (case k_Sky_camera => k_is)
    (case q_Sky_star_at => k_is)
    (case i_Sky_star_at => k_is)
    (case l_Sky_star_at => k_is)
    (case c_Sky_star_at => k_is)
    (case k_Sky_star_at => k_is)
    (case q_Sky_with_star => k_is)
    (case i_Sky_with_star => k_is)
    (case l_Sky_with_star => k_is)
    (case c_Sky_with_star => k_is)
    (case k_Sky_with_star => k_is)
    (case q_Sky_with_camera => k_is)
    (case i_Sky_with_camera => k_is)
    (case l_Sky_with_camera => k_is)
    (case c_Sky_with_camera => k_is)
    (case k_Sky_with_camera => k_is)
    (case q_Sky_without_star => k_is)
    (case i_Sky_without_star => k_is)
    (case l_Sky_without_star => k_is)
    (case c_Sky_without_star => k_is)
    (case k_Sky_without_star => k_is)
    (case q_Sky_moved => k_is)
    (case i_Sky_moved => k_is)
    (case l_Sky_moved => k_is)
    (case c_Sky_moved => k_is)
    (case k_Sky_moved => k_is)
    (case q_Desk___init__ => k_is)
    (case i_Desk___init__ => k_is)
    (case l_Desk___init__ => k_is)
    (case c_Desk___init__ => k_is)
    (case k_Desk___init__ => k_is)
    (case q_Desk_sky_now => k_is)
    (case i_Desk_sky_now => k_is)
    (case l_Desk_sky_now => k_is)
    (case c_Desk_sky_now => k_is)
    (case k_Desk_sky_now => k_is)
    (case q_Desk_change_to => k_is)
    (case i_Desk_change_to => k_is)
    (case l_Desk_change_to => k_is)
    (case c_Desk_change_to => k_is)
    (case k_Desk_change_to => k_is)
    (case q_Desk_put_star => k_is)
    (case i_Desk_put_star => k_is)
    (case l_Desk_put_star => k_is)
    (case c_Desk_put_star => k_is)
    (case k_Desk_put_star => k_is)
    (case q_Desk_drop_star => k_is)
    (case i_Desk_drop_star => k_is)
    (case l_Desk_drop_star => k_is)
    (case c_Desk_drop_star => k_is)
    (case k_Desk_drop_star => k_is)
    (case q_Desk_set_camera => k_is)
    (case i_Desk_set_camera => k_is)
    (case l_Desk_set_camera => k_is)
    (case c_Desk_set_camera => k_is)
    (case k_Desk_set_camera => k_is)
    (case q_Desk_move_sky => k_is)
    (case i_Desk_move_sky => k_is)
    (case l_Desk_move_sky => k_is)
    (case c_Desk_move_sky => k_is)
    (case k_Desk_move_sky => k_is)
    (case q_Desk_undo => k_is)
    (case i_Desk_undo => k_is)
    (case l_Desk_undo => k_is)
    (case c_Desk_undo => k_is)
    (case k_Desk_undo => k_is)
    (case q_Desk_redo => k_is)
    (case i_Desk_redo => k_is)
    (case l_Desk_redo => k_is)
    (case c_Desk_redo => k_is)
    (case k_Desk_redo => k_is)
    (case q__law_row => k_is)
    (case l__law_row => k_is)
    (case c__law_row => k_is)
    (case k__law_row => k_is)
    (case q__law_numbers => k_is)
    (case l__law_numbers => k_is)
    (case c__law_numbers => k_is)
    (case k__law_numbers => k_is)
    (case q__law_parts => k_is)
    (case l__law_parts => k_is)
    (case c__law_parts => k_is)
    (case k__law_parts => k_is)
    (case q__law_turn => k_is)
    (case l__law_turn => k_is)
    (case c__law_turn => k_is)
    (case k__law_turn => k_is)
    (case q__law_moved => k_is)
    (case l__law_moved => k_is)
    (case c__law_moved => k_is)
    (case k__law_moved => k_is)
    (case q__law_is_camera => k_is)
    (case l__law_is_camera => k_is)
    (case c__law_is_camera => k_is)
    (case k__law_is_camera => k_is)
    (case q__law_behind => k_is)
    (case l__law_behind => k_is)
    (case c__law_behind => k_is)
    (case k__law_behind => k_is)
    (case q__law_deed => k_is)
    (case l__law_deed => k_is)
    (case c__law_deed => k_is)
    (case k__law_deed => k_is)
    (case q__law_told => k_is)
    (case l__law_told => k_is)
    (case c__law_told => k_is)
    (case k__law_told => k_is)
    (case q__law_do => k_is)
    (case l__law_do => k_is)
    (case c__law_do => k_is)
    (case k__law_do => k_is)
    (case q__law_can => k_is)
    (case l__law_can => k_is)
    (case c__law_can => k_is)
    (case k__law_can => k_is)
    (case q__law_ways => k_is)
    (case l__law_ways => k_is)
    (case c__law_ways => k_is)
    (case k__law_ways => k_is)
    (case q_law => k_is)
    (case l_law => k_is)
    (case c_law => k_is)
    (case k_law => k_is)
    (case q_Desk_change_all => k_is)
    (case i_Desk_change_all => k_is)
    (case l_Desk_change_all => k_is)
    (case c_Desk_change_all => k_is)
    (case k_Desk_change_all => k_is)
    (case q_Desk_make => k_is)
    (case i_Desk_make => k_is)
    (case l_Desk_make => k_is)
    (case c_Desk_make => k_is)
    (case k_Desk_make => k_is)
    (case q__law_all => k_is)
    (case l__law_all => k_is)
    (case c__law_all => k_is)
    (case k__law_all => k_is)

