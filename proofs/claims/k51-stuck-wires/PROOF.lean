import PyProof.Rows.All
import Wide.All
import OpenK.AllK
import Wide.FinOn
import HandS.ForMost
import HandS.Deep
import HandS.More
import PyProof.StrLawsRepr
import HandS.SortOrd
import KE.KSortRegAny
import HandS.SortRule
import HandS.Codes
import HandS.SetKeys
import KE.KStateDown
import HandS.Ends
import HandS.Words
import HandS.Defaults
import HandS.Head0
import HandS.Head1
import HandS.Head2
import HandS.HeadEnd
import HandS.HeadHook1
import HandS.HeadHook2
import PySem.Challenge.RW_neveropposed_k51_stuck_wires
set_option Elab.async false
set_option linter.all false
set_option maxRecDepth 100000
set_option maxHeartbeats 4000000
/-! HD: a layer of values over the hand layer: data by value, lists that a slot owns. -/
namespace HD
open PySem PySem.Spec PyProof.Rows L2

/-! ### heaps that grow -/
def Ex (H H' : Hp) : Prop := ∀ a o, H a = some o → H' a = some o
theorem Ex.refl {H : Hp} : Ex H H := fun _ _ h => h
theorem Ex.trans {H H1 H2 : Hp} (a : Ex H H1) (b : Ex H1 H2) : Ex H H2 := fun x o h => b x o (a x o h)
theorem Ex.new {H : Hp} {p : Addr} {o : HO} (h : H p = none) : Ex H (upd H p o) := fun a u e => by
  rw [upd_ne (ne_of_none e h)]
  exact e
theorem Ex.rd {H H' : Hp} {a : Addr} {u : HO} (e : Ex H H') (h : Rd H a u) : Rd H' a u := by
  rcases h with h | ⟨o, h⟩
  · exact Or.inl (e a _ h)
  · exact Or.inr ⟨o, e a _ h⟩
theorem Ex.l {K : PySem.W.Frag} {H H' : Hp} {a : Addr} {xs : List V} (e : Ex H H') (h : SqL K H a xs) : SqL K H' a xs := by
  rcases h with h | h
  · exact Or.inl (e.rd h)
  · exact Or.inr h
theorem Ex.t {K : PySem.W.Frag} {H H' : Hp} {a : Addr} {xs : List V} (e : Ex H H') (h : SqT K H a xs) : SqT K H' a xs := by
  rcases h with h | h
  · exact Or.inl (e.rd h)
  · exact Or.inr h
theorem Ex.back {H H' : Hp} {p : Addr} (e : Ex H H') (h : H' p = none) : H p = none := by
  cases h1 : H p with
  | none => rfl
  | some o =>
    rw [e p o h1] at h
    cases h
mutual
theorem dp_ex {K : PySem.W.Frag} {H H' : Hp} (e : Ex H H') : ∀ (d : PyData) (v : V), Dp K H v d → Dp K H' v d
  | .none, _, h => by cases h; exact .non
  | .bool b, _, h => by cases h; exact .bl b
  | .int i, _, h => by cases h; exact .int i
  | .str x, _, h => by cases h; exact .str x
  | .list ds, _, h => by
    cases h with
    | lst hs ha => exact .lst (e.l hs) (dpAll_ex e ds _ ha)
  | .tuple ds, _, h => by
    cases h with
    | tup hs ha => exact .tup (e.t hs) (dpAll_ex e ds _ ha)
  | .dict _, _, h => by cases h
theorem dpAll_ex {K : PySem.W.Frag} {H H' : Hp} (e : Ex H H') : ∀ (ds : List PyData) (vs : List V), DpAll K H vs ds → DpAll K H' vs ds
  | [], _, h => by cases h; exact .nil
  | d :: ds, _, h => by
    cases h with
    | cons h1 h2 => exact .cons (dp_ex e d _ h1) (dpAll_ex e ds _ h2)
end
theorem Ex.dp {K : PySem.W.Frag} {H H' : Hp} {d : PyData} {v : V} (e : Ex H H') (h : Dp K H v d) : Dp K H' v d := dp_ex e d v h
theorem Ex.dpa {K : PySem.W.Frag} {H H' : Hp} {d : List PyData} {v : List V} (e : Ex H H') (h : DpAll K H v d) : DpAll K H' v d := dpAll_ex e d v h
section
variable {K : PySem.W.Frag} {H : Hp}
theorem dpa_len : ∀ {vs : List V} {ds : List PyData}, DpAll K H vs ds → vs.length = ds.length
  | _, [], h => by cases h; rfl
  | _, d :: ds, h => by
    cases h with
    | cons h1 h2 => simp [dpa_len h2]
theorem dpa_get : ∀ {vs : List V} {ds : List PyData} {i : Nat} {d : PyData}, DpAll K H vs ds → ds[i]? = some d → ∃ v, vs[i]? = some v ∧ Dp K H v d
  | _, [], _, _, h, e => by simp at e
  | _, d :: ds, 0, _, h, e => by
    cases h with
    | cons h1 h2 =>
      simp at e
      subst e
      exact ⟨_, rfl, h1⟩
  | _, d :: ds, i + 1, _, h, e => by
    cases h with
    | cons h1 h2 =>
      obtain ⟨v, q, r⟩ := dpa_get (i := i) h2 (by simpa using e)
      exact ⟨v, by simpa using q, r⟩
theorem dpa_get' : ∀ {vs : List V} {ds : List PyData} {i : Nat} {v : V}, DpAll K H vs ds → vs[i]? = some v → ∃ d, ds[i]? = some d ∧ Dp K H v d
  | _, [], _, _, h, e => by cases h; simp at e
  | _, d :: ds, 0, _, h, e => by
    cases h with
    | cons h1 h2 =>
      simp at e
      subst e
      exact ⟨_, rfl, h1⟩
  | _, d :: ds, i + 1, _, h, e => by
    cases h with
    | cons h1 h2 =>
      obtain ⟨v, q, r⟩ := dpa_get' (i := i) h2 (by simpa using e)
      exact ⟨v, by simpa using q, r⟩
theorem dpa_app : ∀ {vs us : List V} {ds es : List PyData}, DpAll K H vs ds → DpAll K H us es → DpAll K H (vs ++ us) (ds ++ es)
  | _, _, [], _, h, h2 => by cases h; exact h2
  | _, _, d :: ds, _, h, h2 => by
    cases h with
    | cons a b => exact .cons a (dpa_app b h2)
theorem dpa_one {v : V} {d : PyData} (h : Dp K H v d) : DpAll K H [v] [d] := .cons h .nil
theorem dpa_take : ∀ {vs : List V} {ds : List PyData} (n : Nat), DpAll K H vs ds → DpAll K H (vs.take n) (ds.take n)
  | _, _, 0, _ => .nil
  | _, [], n + 1, h => by cases h; exact .nil
  | _, d :: ds, n + 1, h => by
    cases h with
    | cons a b => exact .cons a (dpa_take n b)
theorem dpa_drop : ∀ {vs : List V} {ds : List PyData} (n : Nat), DpAll K H vs ds → DpAll K H (vs.drop n) (ds.drop n)
  | _, _, 0, h => h
  | _, [], n + 1, h => by cases h; exact .nil
  | _, d :: ds, n + 1, h => by
    cases h with
    | cons a b => exact dpa_drop n b
theorem dpa_rev : ∀ {vs : List V} {ds : List PyData}, DpAll K H vs ds → DpAll K H vs.reverse ds.reverse
  | _, [], h => by cases h; exact .nil
  | _, d :: ds, h => by
    cases h with
    | cons a b =>
      rw [List.reverse_cons, List.reverse_cons]
      exact dpa_app (dpa_rev b) (dpa_one a)
theorem dpa_set : ∀ {vs : List V} {ds : List PyData} (i : Nat) {v : V} {d : PyData}, DpAll K H vs ds → Dp K H v d → DpAll K H (vs.set i v) (ds.set i d)
  | _, [], _, _, _, h, _ => by cases h; exact .nil
  | _, d :: ds, 0, _, _, h, q => by
    cases h with
    | cons a b => exact .cons q b
  | _, d :: ds, i + 1, _, _, h, q => by
    cases h with
    | cons a b => exact .cons a (dpa_set i b q)
theorem dpa_erase : ∀ {vs : List V} {ds : List PyData} (i : Nat), DpAll K H vs ds → DpAll K H (vs.eraseIdx i) (ds.eraseIdx i)
  | _, [], _, h => by cases h; exact .nil
  | _, d :: ds, 0, h => by
    cases h with
    | cons a b => exact b
  | _, d :: ds, i + 1, h => by
    cases h with
    | cons a b => exact .cons a (dpa_erase i b)
theorem dpa_dropLast : ∀ {vs : List V} {ds : List PyData}, DpAll K H vs ds → DpAll K H vs.dropLast ds.dropLast := fun {vs ds} h => by
  rw [List.dropLast_eq_take, List.dropLast_eq_take, dpa_len h]
  exact dpa_take _ h
theorem dpa_of_get : ∀ {vs : List V} {ds : List PyData}, vs.length = ds.length → (∀ (i : Nat) v d, vs[i]? = some v → ds[i]? = some d → Dp K H v d) → DpAll K H vs ds
  | [], [], _, _ => .nil
  | [], _ :: _, h, _ => by simp at h
  | _ :: _, [], h, _ => by simp at h
  | v :: vs, d :: ds, h, q => .cons (q 0 v d rfl rfl) (dpa_of_get (by simpa using h) fun i v' d' a b => q (i + 1) v' d' (by simpa using a) (by simpa using b))
end

/-! ### growth that leaves what stood -/
structure Gr (G H G' H' : Hp) : Prop where
  g : Ex G G'
  h : Ex H H'
  s : Ex G' H'
  o : ∀ a o, H a = some o → G' a = G a
theorem Gr.refl {G H : Hp} (s : Ex G H) : Gr G H G H := ⟨Ex.refl, Ex.refl, s, fun _ _ _ => rfl⟩
theorem Gr.trans {G H G1 H1 G2 H2 : Hp} (a : Gr G H G1 H1) (b : Gr G1 H1 G2 H2) : Gr G H G2 H2 :=
  ⟨a.g.trans b.g, a.h.trans b.h, b.s, fun x o e => (b.o x o (a.h x o e)).trans (a.o x o e)⟩
theorem Gr.new {G H : Hp} (s : Ex G H) {p : Addr} {o : HO} (h : H p = none) : Gr G H (upd G p o) (upd H p o) := by
  refine ⟨Ex.new (s.back h), Ex.new h, fun a u e => ?_, fun a u e => upd_ne (ne_of_none e h)⟩
  by_cases z : a = p
  · subst z
    rw [upd_same] at e ⊢
    exact e
  · rw [upd_ne z] at e ⊢
    exact s a u e
/-- a new object that is not shared -/
theorem Gr.own {G H : Hp} (s : Ex G H) {p : Addr} {o : HO} (h : H p = none) : Gr G H G (upd H p o) :=
  ⟨Ex.refl, Ex.new h, s.trans (Ex.new h), fun _ _ _ => rfl⟩

/-! ### slots -/
inductive Sl where
  | un
  | sh (d : PyData)
  | ol (xs : List PyData)
inductive R where
  | val (d : PyData)
  | loc (j : Nat)
  | fr (xs : List PyData)
structure C0 where
  G0 : Hp
  H0 : Hp
  ios : List Nat
  ioa : Nat → Addr
  pins : List (Addr × HO)
def IoA (c : C0) (a : Addr) : Prop := ∃ j, j ∈ c.ios ∧ c.ioa j = a

structure SR (K : PySem.W.Frag) (c : C0) (e : List Sl) (G : Hp) (σ : L2.St) (H : Hp) : Prop where
  sub : Ex G H
  keep : ∀ a o, c.H0 a = some o → ¬ IoA c a → H a = some o
  gk : ∀ a o, c.H0 a = some o → ¬ IoA c a → G a = c.G0 a
  dom : ∀ a o, c.H0 a = some o → ∃ o', H a = some o'
  ioh : ∀ j, j ∈ c.ios → ∃ o, c.H0 (c.ioa j) = some o
  len : e.length = σ.length
  sh : ∀ (i : Nat) d, e[i]? = some (Sl.sh d) → ∃ v, σ[i]? = some (some v) ∧ Dp K G v d
  ol : ∀ (i : Nat) xs, e[i]? = some (Sl.ol xs) → ∃ a vs, σ[i]? = some (some (.ref a)) ∧ H a = some (.lst vs) ∧ G a = none ∧ DpAll K G vs xs ∧ (c.H0 a = none ∨ IoA c a)
  inj : ∀ (i j : Nat) xs ys a, e[i]? = some (Sl.ol xs) → e[j]? = some (Sl.ol ys) → σ[i]? = some (some (V.ref a)) → σ[j]? = some (some (V.ref a)) → i = j
  io : ∀ j, j ∈ c.ios → σ[j]? = some (some (.ref (c.ioa j)))
  pin : ∀ p, p ∈ c.pins → H p.1 = some p.2 ∧ G p.1 = none ∧ c.H0 p.1 = none ∧ ∀ (i : Nat) xs, e[i]? = some (Sl.ol xs) → σ[i]? ≠ some (some (V.ref p.1))
  pnd : (c.pins.map (·.1)).Nodup
section
variable {K : PySem.W.Frag} {c : C0} {e : List Sl} {G H G' H' : Hp} {σ : L2.St}
theorem SR.grow (S : SR K c e G σ H) (g : Gr G H G' H') : SR K c e G' σ H' where
  sub := g.s
  keep := fun a o h n => g.h a o (S.keep a o h n)
  gk := fun a o h n => (g.o a o (S.keep a o h n)).trans (S.gk a o h n)
  dom := fun a o h => let ⟨o', q⟩ := S.dom a o h; ⟨o', g.h a o' q⟩
  ioh := S.ioh
  len := S.len
  sh := fun i d h => let ⟨v, q, r⟩ := S.sh i d h; ⟨v, q, g.g.dp r⟩
  ol := fun i xs h => by
    obtain ⟨a, vs, q, r, n, d, z⟩ := S.ol i xs h
    exact ⟨a, vs, q, g.h a _ r, (g.o a _ r).trans n, g.g.dpa d, z⟩
  inj := S.inj
  io := S.io
  pin := fun p hp => let ⟨a, b, d, f⟩ := S.pin p hp; ⟨g.h _ _ a, (g.o _ _ a).trans b, d, f⟩
  pnd := S.pnd

def peek (e : List Sl) : R → Option PyData
  | .val d => some d
  | .loc j => match e[j]? with
    | some (.sh d) => some d
    | some (.ol xs) => some (.list xs)
    | _ => none
  | .fr xs => some (.list xs)
def R.fz : R → R
  | .fr xs => .val (.list xs)
  | r => r

def RR (K : PySem.W.Frag) (c : C0) (e : List Sl) (G : Hp) (σ : L2.St) (H : Hp) (v : V) : R → Prop
  | .val d => Dp K G v d
  | .loc j => σ[j]? = some (some v)
  | .fr xs => ∃ a vs, v = .ref a ∧ H a = some (.lst vs) ∧ G a = none ∧ DpAll K G vs xs ∧ c.H0 a = none ∧ (∀ p, p ∈ c.pins → p.1 ≠ a) ∧ ∀ (i : Nat) ys, e[i]? = some (.ol ys) → σ[i]? ≠ some (some (.ref a))
/-- what is looked at: a shared thing, or a list that some slot owns -/
def PK (K : PySem.W.Frag) (G H : Hp) (v : V) (d : PyData) : Prop := Dp K G v d ∨ ∃ a vs xs, v = .ref a ∧ d = .list xs ∧ H a = some (.lst vs) ∧ DpAll K G vs xs
theorem PK.dp {v : V} {d : PyData} (s : Ex G H) (h : PK K G H v d) : Dp K H v d := by
  rcases h with h | ⟨a, vs, xs, rfl, rfl, h1, h2⟩
  · exact s.dp h
  · exact .lst (.inl (.inl h1)) (s.dpa h2)
theorem PK.list {v : V} {xs : List PyData} (s : Ex G H) (h : PK K G H v (.list xs)) : ∃ a vs, v = .ref a ∧ SqL K H a vs ∧ DpAll K G vs xs := by
  rcases h with h | ⟨a, vs, ys, rfl, e, h1, h2⟩
  · cases h with
    | lst h1 h2 => exact ⟨_, _, rfl, s.l h1, h2⟩
  · cases e
    exact ⟨a, vs, rfl, .inl (.inl h1), h2⟩
theorem PK.tuple {v : V} {xs : List PyData} (s : Ex G H) (h : PK K G H v (.tuple xs)) : ∃ a vs, v = .ref a ∧ SqT K H a vs ∧ DpAll K G vs xs := by
  rcases h with h | ⟨a, vs, ys, rfl, e, h1, h2⟩
  · cases h with
    | tup h1 h2 => exact ⟨_, _, rfl, s.t h1, h2⟩
  · cases e
theorem PK.int {v : V} {i : Int} (h : PK K G H v (.int i)) : v = .int i := by
  rcases h with h | ⟨a, vs, ys, rfl, e, h1, h2⟩
  · cases h; rfl
  · cases e
theorem PK.str {v : V} {i : Str} (h : PK K G H v (.str i)) : v = .str i := by
  rcases h with h | ⟨a, vs, ys, rfl, e, h1, h2⟩
  · cases h; rfl
  · cases e
theorem PK.bool {v : V} {i : Bool} (h : PK K G H v (.bool i)) : v = .bl i := by
  rcases h with h | ⟨a, vs, ys, rfl, e, h1, h2⟩
  · cases h; rfl
  · cases e
theorem PK.none {v : V} (h : PK K G H v .none) : v = .non := by
  rcases h with h | ⟨a, vs, ys, rfl, e, h1, h2⟩
  · cases h; rfl
  · cases e
theorem PK.nodict {v : V} {k} (h : PK K G H v (.dict k)) : False := by
  rcases h with h | ⟨a, vs, ys, rfl, e, h1, h2⟩
  · cases h
  · cases e

/-- a list that a slot owns is shared from here on -/
theorem SR.leak (S : SR K c e G σ H) {j : Nat} {xs : List PyData} (h : e[j]? = some (.ol xs)) : ∃ G', Ex G G' ∧ SR K c (e.set j (.sh (.list xs))) G' σ H ∧ ∃ v, σ[j]? = some (some v) ∧ Dp K G' v (.list xs) := by
  obtain ⟨a, vs, q, r, n, d, z⟩ := S.ol j xs h
  have ex : Ex G (upd G a (.lst vs)) := Ex.new n
  have hj : j < e.length := (List.getElem?_eq_some_iff.mp h).1
  have dl : Dp K (upd G a (.lst vs)) (.ref a) (.list xs) := .lst (.inl (.inl upd_same)) (ex.dpa d)
  refine ⟨upd G a (.lst vs), ex, ⟨fun b o hb => ?_, S.keep, fun b o hb nb => ?_, S.dom, S.ioh, by rw [List.length_set]; exact S.len, fun i d' hi => ?_, fun i ys hi => ?_, fun i k ys zs b hi hk => ?_, S.io, fun p hp => ?_, S.pnd⟩, .ref a, q, dl⟩
  · by_cases hba : b = a
    · subst hba
      rw [upd_same] at hb
      rw [r]; exact hb
    · rw [upd_ne hba] at hb
      exact S.sub b o hb
  · rw [upd_ne (fun hba => by subst hba; exact z.elim (fun z => by rw [z] at hb; cases hb) nb)]
    exact S.gk b o hb nb
  · by_cases hij : i = j
    · subst hij
      rw [List.getElem?_set_self hj] at hi
      cases hi
      exact ⟨.ref a, q, dl⟩
    · rw [List.getElem?_set_ne (Ne.symm hij)] at hi
      obtain ⟨v, q', r'⟩ := S.sh i d' hi
      exact ⟨v, q', ex.dp r'⟩
  · by_cases hij : i = j
    · subst hij
      rw [List.getElem?_set_self hj] at hi
      cases hi
    · rw [List.getElem?_set_ne (Ne.symm hij)] at hi
      obtain ⟨b, us, q', r', n', d', z'⟩ := S.ol i ys hi
      have hba : b ≠ a := fun e' => hij (S.inj i j ys xs a hi h (by rw [q', e']) q)
      exact ⟨b, us, q', r', by rw [upd_ne hba]; exact n', ex.dpa d', z'⟩
  · have h1 : i ≠ j := fun e' => by
      subst e'
      rw [List.getElem?_set_self hj] at hi
      cases hi
    have h2 : k ≠ j := fun e' => by
      subst e'
      rw [List.getElem?_set_self hj] at hk
      cases hk
    rw [List.getElem?_set_ne (Ne.symm h1)] at hi
    rw [List.getElem?_set_ne (Ne.symm h2)] at hk
    exact S.inj i k ys zs b hi hk
  · obtain ⟨p1, p2, p3, p4⟩ := S.pin p hp
    have hpa : p.1 ≠ a := fun z => p4 j xs h (by rw [z]; exact q)
    refine ⟨p1, by rw [upd_ne hpa]; exact p2, p3, fun i ys hi => ?_⟩
    have h1 : i ≠ j := fun e' => by
      subst e'
      rw [List.getElem?_set_self hj] at hi
      cases hi
    rw [List.getElem?_set_ne (Ne.symm h1)] at hi
    exact p4 i ys hi
/-- a new list is shared from here on -/
theorem SR.fz (S : SR K c e G σ H) {v : V} {r : R} (h : RR K c e G σ H v r) : ∃ G', Ex G G' ∧ SR K c e G' σ H ∧ RR K c e G' σ H v r.fz := by
  cases r with
  | val d => exact ⟨G, Ex.refl, S, h⟩
  | loc j => exact ⟨G, Ex.refl, S, h⟩
  | fr xs =>
    obtain ⟨a, vs, rfl, r, n, d, z, pp, f⟩ := h
    have ex : Ex G (upd G a (.lst vs)) := Ex.new n
    refine ⟨upd G a (.lst vs), ex, ⟨fun b o hb => ?_, S.keep, fun b o hb nb => ?_, S.dom, S.ioh, S.len, fun i d' hi => ?_, fun i ys hi => ?_, S.inj, S.io, fun p hp => ?_, S.pnd⟩, .lst (.inl (.inl upd_same)) (ex.dpa d)⟩
    · by_cases hba : b = a
      · subst hba
        rw [upd_same] at hb
        rw [r]; exact hb
      · rw [upd_ne hba] at hb
        exact S.sub b o hb
    · rw [upd_ne (fun hba => by subst hba; rw [z] at hb; cases hb)]
      exact S.gk b o hb nb
    · obtain ⟨v, q', r'⟩ := S.sh i d' hi
      exact ⟨v, q', ex.dp r'⟩
    · obtain ⟨b, us, q', r', n', d', z'⟩ := S.ol i ys hi
      have hba : b ≠ a := fun e' => f i ys hi (by rw [q', e'])
      exact ⟨b, us, q', r', by rw [upd_ne hba]; exact n', ex.dpa d', z'⟩
    · obtain ⟨p1, p2, p3, p4⟩ := S.pin p hp
      exact ⟨p1, by rw [upd_ne (pp p hp)]; exact p2, p3, p4⟩
def R.isFr : R → Prop
  | .fr _ => True
  | _ => False
theorem fz_not {r : R} : ¬ r.fz.isFr := by cases r <;> exact id
theorem SR.peek (S : SR K c e G σ H) {v : V} {r : R} {d : PyData} (h : RR K c e G σ H v r) (n : ¬ r.isFr) (p : peek e r = some d) : PK K G H v d := by
  cases r with
  | val d' =>
    cases p
    exact .inl h
  | fr xs => exact (n trivial).elim
  | loc j =>
    simp only [HD.peek] at p
    split at p
    · rename_i d' he
      cases p
      obtain ⟨v', q, r⟩ := S.sh j _ he
      have : v' = v := Option.some.inj (Option.some.inj (q.symm.trans h))
      subst this
      exact .inl r
    · rename_i xs he
      cases p
      obtain ⟨a, vs, q, r, n, d, z⟩ := S.ol j _ he
      have : V.ref a = v := Option.some.inj (Option.some.inj (q.symm.trans h))
      subst this
      exact .inr ⟨a, vs, xs, rfl, rfl, r, d⟩
    · cases p
/-- an operand that was reckoned before, behind further steps -/
theorem RR.on {e' : List Sl} {v : V} {r : R} (h : RR K c e G σ H v r) (n : ¬ r.isFr) (ex : Ex G G') : RR K c e' G' σ H' v r := by
  cases r with
  | val d => exact ex.dp h
  | loc j => exact h
  | fr xs => exact (n trivial).elim
/-- an operand that waits -/
def RP (K : PySem.W.Frag) (G : Hp) (σ : L2.St) (v : V) : R → Prop
  | .val d => Dp K G v d
  | .loc j => σ[j]? = some (some v)
  | .fr _ => False
theorem RP.ex {v : V} {r : R} (h : RP K G σ v r) (ex : Ex G G') : RP K G' σ v r := by
  cases r with
  | val d => exact ex.dp h
  | loc j => exact h
  | fr xs => exact h
theorem RR.rp {v : V} {r : R} (h : RR K c e G σ H v r) (n : ¬ r.isFr) : RP K G σ v r := by
  cases r with
  | val d => exact h
  | loc j => exact h
  | fr xs => exact (n trivial).elim
theorem RP.rr {v : V} {r : R} (h : RP K G σ v r) : RR K c e G σ H v r := by
  cases r with
  | val d => exact h
  | loc j => exact h
  | fr xs => exact h.elim
theorem SR.fzp (S : SR K c e G σ H) {v : V} {r : R} (h : RR K c e G σ H v r) : ∃ G', Ex G G' ∧ SR K c e G' σ H ∧ RP K G' σ v r.fz := by
  obtain ⟨G', a, b, d⟩ := S.fz h
  exact ⟨G', a, b, d.rp fz_not⟩
theorem RP.nf {v : V} {r : R} (h : RP K G σ v r) : ¬ r.isFr := by
  cases r with
  | fr xs => exact h.elim
  | _ => exact id
theorem SR.peekp (S : SR K c e G σ H) {v : V} {r : R} {d : PyData} (h : RP K G σ v r) (p : HD.peek e r = some d) : PK K G H v d := S.peek h.rr h.nf p
/-- what an operation makes, from H on -/
def RN (K : PySem.W.Frag) (H G' H' : Hp) (v : V) : R → Prop
  | .val d => Dp K G' v d
  | .loc _ => False
  | .fr xs => ∃ a vs, v = .ref a ∧ H' a = some (.lst vs) ∧ G' a = none ∧ DpAll K G' vs xs ∧ H a = none
theorem SR.rn (S : SR K c e G σ H) {v : V} {r : R} (h : RN K H G' H' v r) : RR K c e G' σ H' v r := by
  cases r with
  | val d => exact h
  | loc j => exact h.elim
  | fr xs =>
    obtain ⟨a, vs, rfl, q, n, d, f⟩ := h
    refine ⟨a, vs, rfl, q, n, d, ?_, fun p hp z => ?_, fun i ys hi hs => ?_⟩
    · cases h0 : c.H0 a with
      | none => rfl
      | some o =>
        obtain ⟨o', ho⟩ := S.dom a o h0
        rw [f] at ho
        cases ho
    · have z1 := (S.pin p hp).1
      rw [z, f] at z1
      cases z1
    · obtain ⟨b, us, q', r', _⟩ := S.ol i ys hi
      rw [hs] at q'
      cases q'
      rw [f] at r'
      cases r'
end
end HD


set_option Elab.async false
set_option linter.all false
set_option maxRecDepth 100000
set_option maxHeartbeats 4000000
/-! HDG: promises of defs that are called where no repr is under way. -/
namespace HD
open PySem PySem.Spec PyProof.Rows L2

/-- room for calls, and nothing is being shown -/
structure RoomG (k : Nat) (A : Around) : Prop where
  r : Room k A
  g : A.guards = some []
theorem RoomG.mono {j k : Nat} {A : Around} (h : RoomG k A) (l : j ≤ k) : RoomG j A := ⟨h.r.mono l, h.g⟩
theorem RoomG.deeper {k : Nat} {A : Around} (h : RoomG (k + 1) A) (env : Env) : RoomG k (A.deeper env) := ⟨h.r.deeper env, h.g⟩
section
variable {P : Program} {w : World} {K : PySem.W.Frag} {mg : Str → Option Value} {base : Heap} {CX : CXT} {k : Nat} {f : Addr} {fd : FuncData} {ps : List Str} {sp : Sp}
/-- the def at f keeps sp -/
structure FnG (P : Program) (w : World) (K : PySem.W.Frag) (mg : Str → Option Value) (base : Heap) (CX : CXT) (k : Nat) (f : Addr) (fd : FuncData) (ps : List Str) (sp : Sp) : Prop where
  size : ∀ vs H Q E, sp vs H Q E → vs.length = ps.length
  go : ∀ (A : Around) (around : List Env) (s : Shared) (H : Hp) (args : Args) (us : List Value) (vs : List V) (Q : VK) (E : XK), RoomG k A → Env0 P w K mg base A around s H →
    BindsTo s fd args (ps.zip us) → Vals vs us → sp vs H Q E → codeAny (model P w) A (.call (.ref f) args) (CR CX around P w H s Q E) s
theorem FnG.mono {j : Nat} (F : FnG P w K mg base CX j f fd ps sp) (l : j ≤ k) : FnG P w K mg base CX k f fd ps sp :=
  ⟨F.size, fun A o s H args us vs Q E hr => F.go A o s H args us vs Q E (hr.mono l)⟩
theorem FnG.of (F : FnOk P w K mg base CX k f fd ps sp) : FnG P w K mg base CX k f fd ps sp :=
  ⟨F.len, fun A o s H args us vs Q E hr => F.run A o s H args us vs Q E hr.r⟩
theorem FnG.imp {sp' : Sp} (F : FnG P w K mg base CX k f fd ps sp) (i : ∀ vs H Q E, sp' vs H Q E → sp vs H Q E) : FnG P w K mg base CX k f fd ps sp' :=
  ⟨fun vs H Q E q => F.size vs H Q E (i _ _ _ _ q), fun A o s H args us vs Q E hr he hb hv hs => F.go A o s H args us vs Q E hr he hb hv (i _ _ _ _ hs)⟩
end

section
variable {X : Cx} {CX : CXT} {k : Nat} {f : Addr} {fd : FuncData} {ps : List Str} {sp : Sp} {ds : List Value} {dvs : List V} {E : XK}
theorem callee_goes {pins : List (Addr × Obj)} {σ : L2.St} {H : Hp} {s : Shared} {Q : VK} {us : List Value} {vs : List V} (F : FnG X.prog X.w X.K X.mg X.base CX k f fd ps sp) (hr : RoomG k X.A) (hb : Binds X.K fd ps ds) (hd : Vals dvs ds)
    (hx : Passes CX X E) (I : L2.Inv X pins σ H s) (rv : Vals vs us) (hs : sp (vs ++ dvs) H Q E) : wpAny (model X.prog X.w) X.A (PySem.call (.ref f) us) (EP X pins σ Q) X.xe s := by
  have all : Vals (vs ++ dvs) (us ++ ds) := rv.append hd
  have hlen : (us ++ ds).length = ps.length := by rw [← all.length, F.size _ _ _ _ hs]
  refine wpAny_call ?_
  refine codeAny_mono (F.go X.A X.stack s H ⟨us, []⟩ (us ++ ds) (vs ++ dvs) Q E hr I.env0 (hb s us I.kIn hlen) all hs) ?_
  intro res s2 hres
  match res, hres with
  | .error x, hres => exact hx pins σ H s x s2 I hres
  | .ok (.ret u), hres => exact I.after hres
variable {x : Str} {p pos : Pos} {e : Expr} {es : List Expr} {t : TA}
/-- f(e, ..), f a def of the text -/
theorem pe_callG (F : FnG X.prog X.w X.K X.mg X.base CX k f fd ps sp) (hr : RoomG k X.A) (hg : Gl X x) (hm : X.mg x = some (.ref f)) (hk : PySem.W.keepIn X.K (.ref f) = true) (hb : Binds X.K fd ps ds) (hd : Vals dvs ds) (hx : Passes CX X E)
    (ha : PA X (e :: es) t) (hdb : (x == ("__debug__" : Str)) = false) (he : starEach (e :: es) X.env = (false, eval e X.env) :: starEach es X.env) (hpl : (backTo pos (starEach es X.env)).any (·.1) = false) :
    PE X (.Call (.Name x p) (e :: es) [] pos) (tCall sp dvs E t) := by
  constructor
  intro pins s σ H Q I h
  apply wpAny_Call_Name_kw
  apply ld_glob I hg hm _ hdb
  refine PySem.W.callWith_K (h₀ := X.base) I.ok.mod.kin hk ?_ he hpl
  refine thn (ha.run pos pins s σ H _ I h) ?_
  rintro us s1 ⟨vs, H1, I1, rv, q⟩
  exact ⟨I1.kIn, callee_goes F hr hb hd hx I1 rv q⟩
theorem pe_callG0 (F : FnG X.prog X.w X.K X.mg X.base CX k f fd ps sp) (hr : RoomG k X.A) (hg : Gl X x) (hm : X.mg x = some (.ref f)) (hk : PySem.W.keepIn X.K (.ref f) = true) (hb : Binds X.K fd ps ds) (hd : Vals dvs ds) (hx : Passes CX X E)
    (hdb : (x == ("__debug__" : Str)) = false) : PE X (.Call (.Name x p) [] [] pos) (tCall sp dvs E tNil) := by
  constructor
  intro pins s σ H Q I h
  apply wpAny_Call_Name_kw
  apply ld_glob I hg hm _ hdb
  exact PySem.W.callWith_K0 I.kIn hk (callee_goes (us := []) F hr hb hd hx I .nil h)
end

section
variable {P : Program} {w : World} {K : PySem.W.Frag} {mg : Str → Option Value} {base : Heap} {CX : CXT} {k : Nat} {f : Addr} {N ps : List Str} {sp : Sp}
/-- a def by its body, where nothing is being shown -/
theorem fnG_of {name qual : Str} {params : Arguments} {body : List Stmt} {scope : Scope} {dV kV doc pm cdv ct oc : Value} {an od : Option Addr} {osl : Array (Option Value)}
    (lk : K.lookup f = some ⟨oc, od, .func (PySem.W.fnOf name qual params body scope dV kV doc pm an cdv ct), osl⟩) (hcd : PySem.W.codeIn K cdv qual = true) (S : FnScope N ps scope) (len : ∀ vs H Q E, sp vs H Q E → vs.length = ps.length)
    (hbody : ∀ (A : Around) (around : List Env) (s : Shared) (H : Hp) (vs : List V) (Q : VK) (E : XK), RoomG k (A.deeper (envOfC qual scope s.heap.objs.size f cdv)) → sp vs H Q E →
      ∃ t, PSs (cxOf CX P w K mg base N qual scope f cdv A around s H E) body t ∧ t { nx := fun _ H' => Q .non H', rt := Q } (L2.start N vs) H) :
    FnG P w K mg base CX (k + 1) f (PySem.W.fnOf name qual params body scope dV kV doc pm an cdv ct) ps sp := by
  constructor
  · exact len
  intro A around s H args us vs Q E hr env0 hbinds rv hs
  have there : K.In s.heap := env0.mod.kin.keeps fun b o e => (env0.bs b o e).1
  have nolim : s.heap.NoLimit := env0.mod.nolimit.keeps fun b o e => (env0.bs b o e).1
  have kinds : ∀ y ∈ ps.zip us, scope.names.lookup y.1 = some .local ∨ (scope.names.lookup y.1 = some .cell ∧ ((cellsFrom (s.heap.objs.size + 1) scope.names []).lookup y.1).isSome = true) := by
    rintro ⟨n, v⟩ hy
    cases S.par n (List.of_mem_zip hy).1 with
    | inl h => exact Or.inl h
    | inr h => exact Or.inr ⟨h, PySem.W.cellsFrom_some _ _ _ (Or.inl h)⟩
  apply codeAny_call_function hr.r.depth (there _ _ lk) rfl S.co S.gen rfl (PySem.W.codeRec_of there hcd) (hbinds _ _ _ _ _)
  apply wpAny_newFunctionEnv_cells S.kind kinds
  rintro env rfl s1 made
  refine ⟨nolim.keeps made.toInCall.keep, codeAny_func ?_⟩
  obtain ⟨t, ht, hq⟩ := hbody A around s H vs Q E (hr.deeper _) hs
  have I := inv_start (CX := CX) (P := P) (mg := mg) (base := base) (E := E) S hr.r.hd env0 (len _ _ _ _ hs) rv made
  refine wpAny_mono (ht.run [] s1 (L2.start N vs) H _ I hq) ?_ fun _ _ z => z
  intro fl s2 hfl
  match fl, hfl with
  | .ret u, ⟨v, σ2, H2, J, r2, q2⟩ => exact ⟨v, H2, J.os, J.bare, J.base, J.hok, r2, q2⟩
  | .next, ⟨σ2, H2, J, q2⟩ => exact ⟨V.non, H2, J.os, J.bare, J.base, J.hok, rfl, q2⟩
  | .brk, ⟨_, _, _, q2⟩ => exact q2.elim
  | .cont, ⟨_, _, _, q2⟩ => exact q2.elim
end

/-- the law's own call -/
theorem law_goes {P : Program} {w : World} {K : PySem.W.Frag} {mg mb : Str → Option Value} {CX : CXT} {k : Nat} {fa a : Addr} {fd : FuncData} {x : Str} {sp : Sp} {s₁ : Shared} {vs : List Value} {ns : List Int}
    (KX : K.In s₁.heap) (hns : s₁.heap.Ns mainGlobals mg) (hb : s₁.heap.Ns builtinsNs mb) (hbb : ∀ x : Str, x ≠ "__name__" → mb x = bootBuiltins x) (hlim : s₁.heap.NoLimit) (hg : s₁.gens = #[])
    (ha : s₁.heap.get? a = some { cls := .type "list", data := .seq vs.toArray }) (hi : IntsAre vs ns) (hl : ns.length ≤ sizeLine) (hr : RoomG k callerA)
    (F : ∀ base : Heap, K.In base → base.Ns mainGlobals mg → FnG P w K mg base CX k fa fd [x] sp) (hbind : ∀ (s : Shared) (u : Value), BindsTo s fd ⟨[u], []⟩ [(x, u)])
    (hsp : ∀ H : Hp, Only H → SqL K H a (ns.map V.int) → sp [.ref a] H (fun v _ => v = .bl true) fun _ _ _ => False) (hCX : ∀ H e s', CX [] H s₁ (fun _ _ _ => False) e s' → False) :
    codeAny (model P w) callerA (.call (.ref fa) ⟨[.ref a], []⟩) (fun r s' => r = .ok (.ret (.bool true)) ∧ OldK s₁.heap s'.heap ∧ s'.os = s₁.os ∧ AllBare s'.gens) s₁ := by
  -- H knows of at most the script
  have from_ : ∀ H : Hp, Only H → SqL K H a (ns.map V.int) → HOk P w H s₁.heap → (∀ b, H b ≠ none → b = a) → (H a ≠ none → K.lookup a = none) →
      codeAny (model P w) callerA (.call (.ref fa) ⟨[.ref a], []⟩) (fun r s' => r = .ok (.ret (.bool true)) ∧ OldK s₁.heap s'.heap ∧ s'.os = s₁.os ∧ AllBare s'.gens) s₁ := by
    intro H only hS ok atA nk
    have untracked_dict : ∀ {b : Addr} {o : Obj} {es : Array DictEntry} {ep : Nat}, s₁.heap.get? b = some o → o.data = .dict es ep → H b = none := by
      intro b o es ep e d
      by_cases z : H b = none
      · exact z
      · have := atA b z
        subst this
        rw [ha] at e
        cases e
        cases d
    have space : ∀ {b : Addr} {m : Str → Option Value}, s₁.heap.Ns b m → (hidT s₁.heap H).Ns b m := by
      rintro b m ⟨o, es, ep, e, d, r⟩
      exact ⟨o, es, ep, hidT_get e (untracked_dict e d), d, r⟩
    have Kb : K.In (hidT s₁.heap H) := by
      intro b o e
      apply hidT_get (KX b o e)
      by_cases z : H b = none
      · exact z
      · have := atA b z
        subst this
        rw [nk z] at e
        cases e
    obtain ⟨mc, l1, l2⟩ := hlim
    have md : Mod K mg (hidT s₁.heap H) := ⟨Kb, space hns, ⟨mb, space hb, hbb⟩, ⟨mc, space l1, l2⟩⟩
    have env0 : Env0 P w K mg (hidT s₁.heap H) callerA [] s₁ H :=
      { frames := rfl, mod := md, bs := fun b o e => of_hidT e, bsz := Nat.le_of_eq (hidT_size _ _), funs := trivial, frf := fun b hm => by simp [frs] at hm, hok := ok, bare := .of_eq hg }
    refine codeAny_mono ((F _ Kb (space hns)).go callerA [] s₁ H ⟨[.ref a], []⟩ [.ref a] [.ref a] _ _ hr env0 (hbind s₁ (.ref a)) (.cons rfl .nil) (hsp H only hS)) ?_
    intro res s2 hres
    match res, hres with
    | .error e, hres => exact (hCX H e s2 hres).elim
    | .ok (.ret u), ⟨v, H2, os, bare, un, ok2, rv, qv⟩ =>
      have qv' : v = .bl true := qv
      subst qv'
      have hu : u = Value.bool true := rv
      subst hu
      refine ⟨rfl, OldK.of_keep ?_, os, bare⟩
      intro b o e
      rcases only b with z | ⟨ob, xs, z⟩
      · exact un.keep b o e z (by simp [frs]) (by simp)
      · have e1 := (ok b _ z).1
        have e2 := (ok2 b _ (un.frzs b ob _ z)).1
        rw [e] at e1
        cases e1
        exact e2
  by_cases hk : K.lookup a = none
  · let H0 : Hp := fun b => if b = a then some (.frz { cls := .type "list", data := .seq vs.toArray } (.lst (ns.map V.int))) else none
    have at_a : H0 a = some (.frz { cls := .type "list", data := .seq vs.toArray } (.lst (ns.map V.int))) := if_pos rfl
    have off_a : ∀ b, b ≠ a → H0 b = none := fun b h => if_neg h
    apply from_ H0
    · intro b
      by_cases h : b = a
      · subst h
        exact Or.inr ⟨_, _, at_a⟩
      · exact Or.inl (off_a b h)
    · exact Or.inl (Or.inr ⟨_, at_a⟩)
    · intro b o h
      by_cases hba : b = a
      · subst hba
        rw [at_a] at h
        cases h
        exact ⟨ha, by rw [List.length_map]; exact hl, vs, _, vals_ints hi, ha⟩
      · rw [off_a b hba] at h
        cases h
    · intro b h
      by_cases hba : b = a
      · exact hba
      · exact (h (off_a b hba)).elim
    · exact fun _ => hk
  · obtain ⟨o, ho⟩ := Option.ne_none_iff_exists'.mp hk
    have e := KX a o ho
    rw [ha] at e
    cases e
    have e2 : vs.length = ns.length := hi.length
    refine from_ (fun _ => none) (fun _ => Or.inl rfl) (Or.inr ⟨_, vs.toArray, _, ho, rfl, rfl, rfl, ?_, ?_⟩) (fun b o h => ?_) (fun b h => (h rfl).elim) fun h => (h rfl).elim
    · rw [List.size_toArray, e2]
      exact hl
    · simpa using vals_ints hi
    · cases (show (none : Option HO) = some o from h)
/-- the end of a law's row -/
theorem walk_ofG {l : PySem.W.OpenLaw} {n k : Nat} {q : Program} {loose : List Str} {XP : (Str → Option Value) → Heap → Prop} {YP : World → Heap → Prop} {d : DefRec} {K : Params → PySem.W.Frag} {CX : World → CXT} {sp : World → Sp} {x : Str}
    (hn : l.most = some n) (hn2 : n ≤ sizeLine) (hdf : d.params.defaults = []) (hr : RoomG k callerA) (hY : ∀ (w : World) (h : Heap), YP w h → (K w.params).In h)
    (F : ∀ (w : World) (mg : Str → Option Value) (fa : Addr) (h : Heap), (K w.params).In h → h.Ns mainGlobals mg → mg d.name = some (.ref fa) →
      ∃ fd : FuncData, (∀ (s : Shared) (u : Value), BindsTo s fd ⟨[u], []⟩ [(x, u)]) ∧ ∀ base : Heap, (K w.params).In base → base.Ns mainGlobals mg → FnG l.prog w (K w.params) mg base (CX w) k fa fd [x] (sp w))
    (hsp : ∀ (w : World) (H : Hp) (a : Addr) (ns : List Int), ns.length ≤ n → Only H → SqL (K w.params) H a (ns.map V.int) → sp w [.ref a] H (fun v _ => v = .bl true) fun _ _ _ => False)
    (hCX : ∀ (w : World) (H : Hp) (s : Shared) (e : Value) (s' : Shared), CX w [] H s (fun _ _ _ => False) e s' → False) : PySem.W.WalkO q loose XP YP l.row.toRowW d [] (fun f vs => PySem.call f vs) := by
  apply Att.attach_call hn hdf
  intro w s₀ s₁ mg mb fa o pm cd doc a vs ns G Y ho hd hcd hmg hobj hints hlen hgens
  have there := hY w _ Y
  obtain ⟨fd, hbind, hF⟩ := F w mg fa _ there G.T.g hmg
  exact law_goes there G.T.g G.T.b G.T.builtins G.T.nolimit hgens hobj hints (Nat.le_trans hlen hn2) hr hF hbind (fun H only hS => hsp w H a ns hlen only hS) fun H e s' => hCX w H s₁ e s'
end HD


set_option Elab.async false
set_option linter.all false
set_option maxRecDepth 100000
set_option maxHeartbeats 4000000
namespace HD
open PySem PySem.Spec PyProof.Rows L2

abbrev D := PyData
abbrev TED := List Sl → (R → List Sl → Prop) → Prop
abbrev TTD := List Sl → (Bool → List Sl → Prop) → Prop
abbrev TAD := List Sl → (List R → List Sl → Prop) → Prop
def bnd {α : Type} : Option α → (α → Prop) → Prop
  | none, _ => False
  | some x, f => f x
@[simp] theorem bnd_s {α : Type} (x : α) (f : α → Prop) : bnd (some x) f = f x := rfl
@[simp] theorem bnd_n {α : Type} (f : α → Prop) : bnd none f = False := rfl
theorem bnd_of {α : Type} {o : Option α} {x : α} {f : α → Prop} (e : o = some x) (h : f x) : bnd o f := by rw [e]; exact h
theorem bnd_inv {α : Type} {o : Option α} {f : α → Prop} (h : bnd o f) : ∃ x, o = some x ∧ f x := by
  cases o with
  | none => exact h.elim
  | some x => exact ⟨x, rfl, h⟩

def Tof (K : PySem.W.Frag) (c : C0) (ir : TED) : TE := fun σ H Q => ∃ e G P, SR K c e G σ H ∧ ir e P ∧ ∀ r e' v G' H', P r e' → Ex G G' → SR K c e' G' σ H' → RR K c e' G' σ H' v r → Q v H'
def TofT (K : PySem.W.Frag) (c : C0) (ir : TTD) : TT := fun σ H Q => ∃ e G P, SR K c e G σ H ∧ ir e P ∧ ∀ b e' G' H', P b e' → Ex G G' → SR K c e' G' σ H' → Q b H'
inductive RPs (K : PySem.W.Frag) (G : Hp) (σ : L2.St) : List V → List R → Prop
  | nil : RPs K G σ [] []
  | cons {v : V} {r : R} {vs : List V} {rs : List R} : RP K G σ v r → RPs K G σ vs rs → RPs K G σ (v :: vs) (r :: rs)
theorem RPs.ex {K : PySem.W.Frag} {G G' : Hp} {σ : L2.St} (ex : Ex G G') : ∀ {vs : List V} {rs : List R}, RPs K G σ vs rs → RPs K G' σ vs rs
  | _, _, .nil => .nil
  | _, _, .cons a b => .cons (a.ex ex) (RPs.ex ex b)
def TofA (K : PySem.W.Frag) (c : C0) (ir : TAD) : TA := fun σ H Q => ∃ e G P, SR K c e G σ H ∧ ir e P ∧ ∀ rs e' vs G' H', P rs e' → Ex G G' → SR K c e' G' σ H' → RPs K G' σ vs rs → Q vs H'

structure PD (X : Cx) (io : List Nat) (x : Expr) (ir : TED) : Prop where
  pe : ∀ c : C0, c.ios = io → PE X x (Tof X.K c ir)
structure PTD (X : Cx) (io : List Nat) (x : Expr) (ir : TTD) : Prop where
  pt : ∀ c : C0, c.ios = io → PT X x (TofT X.K c ir)
structure PAD (X : Cx) (io : List Nat) (xs : List Expr) (ir : TAD) : Prop where
  pa : ∀ c : C0, c.ios = io → PA X xs (TofA X.K c ir)
theorem PE_imp {X : Cx} {x : Expr} {t t' : TE} (h : PE X x t) (i : ∀ σ H Q, t' σ H Q → t σ H Q) : PE X x t' := ⟨fun pins s σ H Q I q => h.run pins s σ H Q I (i σ H Q q)⟩
theorem PT_imp {X : Cx} {x : Expr} {t t' : TT} (h : PT X x t) (i : ∀ σ H Q, t' σ H Q → t σ H Q) : PT X x t' := ⟨fun pins s σ H Q I q => h.run pins s σ H Q I (i σ H Q q)⟩
theorem PW_imp {X : Cx} {x : Expr} {t t' : TT} (h : PW X x t) (i : ∀ σ H Q, t' σ H Q → t σ H Q) : PW X x t' := ⟨fun wh pins s σ H Q I q => h.run wh pins s σ H Q I (i σ H Q q)⟩
theorem PA_imp {X : Cx} {x : List Expr} {t t' : TA} (h : PA X x t) (i : ∀ σ H Q, t' σ H Q → t σ H Q) : PA X x t' := ⟨fun pos pins s σ H Q I q => h.run pos pins s σ H Q I (i σ H Q q)⟩
theorem PS_imp {X : Cx} {x : Stmt} {t t' : TS} (h : PS X x t) (i : ∀ D σ H, t' D σ H → t D σ H) : PS X x t' := ⟨fun pins s σ H D I q => h.run pins s σ H D I (i D σ H q)⟩
theorem PSs_imp {X : Cx} {x : List Stmt} {t t' : TS} (h : PSs X x t) (i : ∀ D σ H, t' D σ H → t D σ H) : PSs X x t' := ⟨fun pins s σ H D I q => h.run pins s σ H D I (i D σ H q)⟩

/-- two ways -/
def br (k : Bool) (a b : Prop) : Prop := (k = true → a) ∧ (k = false → b)
theorem br_t {a b : Prop} (h : a) : br true a b := ⟨fun _ => h, fun e => nomatch e⟩
theorem br_f {a b : Prop} (h : b) : br false a b := ⟨fun e => (nomatch e), fun _ => h⟩
/-! ### expressions -/
structure H1 (f : D → (R → Prop) → Prop) (x : D) (P : R → Prop) : Prop where
  go : f x P
structure H2 (f : D → D → (R → Prop) → Prop) (x y : D) (P : R → Prop) : Prop where
  go : f x y P
structure HN (f : List D → (R → Prop) → Prop) (ds : List D) (P : R → Prop) : Prop where
  go : f ds P
structure HM (f : D → List D → (R → Prop) → Prop) (x : D) (ds : List D) (P : R → Prop) : Prop where
  go : f x ds P
def dVar (i : Nat) : TED := fun e Q => bnd (peek e (.loc i)) fun _ => Q (.loc i) e
def dC (d : D) : TED := fun e Q => Q (.val d) e
def dOp (f : D → D → (R → Prop) → Prop) (ia ib : TED) : TED := fun e Q => ia e fun ra e1 => ib e1 fun rb e2 => bnd (peek e2 ra.fz) fun x => bnd (peek e2 rb.fz) fun y => H2 f x y fun z => Q z e2
def dUn (f : D → (R → Prop) → Prop) (ia : TED) : TED := fun e Q => ia e fun ra e1 => bnd (peek e1 ra.fz) fun x => H1 f x fun z => Q z e1
def dNil : TAD := fun e Q => Q [] e
def dCons (ia : TED) (ta : TAD) : TAD := fun e Q => ia e fun r e1 => ta e1 fun rs e2 => Q (r.fz :: rs) e2
def peeks (e : List Sl) : List R → Option (List D)
  | [] => some []
  | r :: rs => (peek e r).bind fun d => (peeks e rs).map fun ds => d :: ds
def dB (f : List D → (R → Prop) → Prop) (ta : TAD) : TED := fun e Q => ta e fun rs e1 => bnd (peeks e1 rs) fun ds => HN f ds fun z => Q z e1
/-- o.m(..), m of a built-in type, that changes nothing -/
def dM (f : D → List D → (R → Prop) → Prop) (ty : D → Bool) (ia : TED) (ta : TAD) : TED := fun e Q => ia e fun ra e1 => bnd (peek e1 ra.fz) fun x => ty x = true ∧ ta e1 fun rs e2 => bnd (peek e2 ra.fz) fun x => bnd (peeks e2 rs) fun ds => HM f x ds fun z => Q z e2

section
variable {K : PySem.W.Frag} {c : C0} {io : List Nat} {σ : L2.St} {H : Hp} {X : Cx}
theorem tof_var {i : Nat} {Q : VK} (h : Tof K c (dVar i) σ H Q) : tVar i σ H Q := by
  obtain ⟨e, G, P, S, h, k⟩ := h
  obtain ⟨d, hd, h⟩ := bnd_inv h
  have : ∃ v, σ[i]? = some (some v) := by
    simp only [peek] at hd
    split at hd
    · rename_i d' he
      obtain ⟨v, q, _⟩ := S.sh i _ he
      exact ⟨v, q⟩
    · rename_i xs he
      obtain ⟨a, vs, q, _⟩ := S.ol i _ he
      exact ⟨_, q⟩
    · cases hd
  obtain ⟨v, hv⟩ := this
  exact ⟨v, hv, k _ _ v G H h Ex.refl S hv⟩
theorem pd_var {i : Nat} {x : Str} {pos : Pos} (h : PE X (.Name x pos) (tVar i)) : PD X io (.Name x pos) (dVar i) := ⟨fun c hc => PE_imp h fun _ _ _ => tof_var⟩
theorem tof_c {d : D} {u : V} (hu : ∀ G, Dp K G u d) {Q : VK} (h : Tof K c (dC d) σ H Q) : tC u σ H Q := by
  obtain ⟨e, G, P, S, h, k⟩ := h
  exact k _ _ u G H h Ex.refl S (hu G)
theorem pd_int {i : Int} {j pos} : PD X io (.Constant (.int i) j pos) (dC (.int i)) := ⟨fun c hc => PE_imp pe_int fun _ _ _ => tof_c fun _ => .int i⟩
theorem pd_str {i : Str} {j pos} : PD X io (.Constant (.str i) j pos) (dC (.str i)) := ⟨fun c hc => PE_imp pe_str fun _ _ _ => tof_c fun _ => .str i⟩
theorem pd_bl {i : Bool} {j pos} : PD X io (.Constant (.bool i) j pos) (dC (.bool i)) := ⟨fun c hc => PE_imp pe_bl fun _ _ _ => tof_c fun _ => .bl i⟩
theorem pd_non {j pos} : PD X io (.Constant .none j pos) (dC .none) := ⟨fun c hc => PE_imp pe_non fun _ _ _ => tof_c fun _ => .non⟩
/-- a module's constant -/
theorem pd_glob {x : Str} {v : V} {u : Value} {d : D} {pos : Pos} (hg : Gl X x) (hm : X.mg x = some u) (r : RelV v u) (hv : ∀ G, Dp X.K G v d) (hd : (x == ("__debug__" : Str)) = false := by decide) : PD X io (.Name x pos) (dC d) :=
  ⟨fun c hc => PE_imp (pe_glob hg hm r hd) fun _ _ _ => tof_c hv⟩

/-- a two-place operation told by values -/
structure O2 (K : PySem.W.Frag) (f : D → D → (R → Prop) → Prop) (r : R2) : Prop where
  ok : ∀ (G H : Hp) (v u : V) (x y : D) (P : R → Prop) (Q : VK), Ex G H → PK K G H v x → PK K G H u y → f x y P → (∀ w z G' H', P z → Gr G H G' H' → RN K H G' H' w z → Q w H') → r v u H Q
structure O1 (K : PySem.W.Frag) (f : D → (R → Prop) → Prop) (r : V → Hp → VK → Prop) : Prop where
  ok : ∀ (G H : Hp) (v : V) (x : D) (P : R → Prop) (Q : VK), Ex G H → PK K G H v x → f x P → (∀ w z G' H', P z → Gr G H G' H' → RN K H G' H' w z → Q w H') → r v H Q
inductive PKs (K : PySem.W.Frag) (G H : Hp) : List V → List D → Prop
  | nil : PKs K G H [] []
  | cons {v : V} {d : D} {vs : List V} {ds : List D} : PK K G H v d → PKs K G H vs ds → PKs K G H (v :: vs) (d :: ds)
structure ON (K : PySem.W.Frag) (f : List D → (R → Prop) → Prop) (r : List V → Hp → VK → Prop) : Prop where
  ok : ∀ (G H : Hp) (vs : List V) (ds : List D) (P : R → Prop) (Q : VK), Ex G H → PKs K G H vs ds → f ds P → (∀ w z G' H', P z → Gr G H G' H' → RN K H G' H' w z → Q w H') → r vs H Q
structure OM (K : PySem.W.Frag) (f : D → List D → (R → Prop) → Prop) (r : V → List V → Hp → VK → Prop) : Prop where
  ok : ∀ (G H : Hp) (v : V) (x : D) (vs : List V) (ds : List D) (P : R → Prop) (Q : VK), Ex G H → PK K G H v x → PKs K G H vs ds → f x ds P → (∀ w z G' H', P z → Gr G H G' H' → RN K H G' H' w z → Q w H') → r v vs H Q

theorem SR.peeksp {e : List Sl} {G : Hp} (S : SR K c e G σ H) : ∀ {vs : List V} {rs : List R} {ds : List D}, RPs K G σ vs rs → peeks e rs = some ds → PKs K G H vs ds
  | _, _, _, .nil, h => by
    cases h
    exact .nil
  | _, r :: rs, ds, .cons a b, h => by
    simp only [peeks] at h
    cases h1 : HD.peek e r with
    | none => rw [h1] at h; cases h
    | some d =>
      rw [h1] at h
      simp only [Option.bind_some] at h
      cases h2 : peeks e rs with
      | none => rw [h2] at h; cases h
      | some ds' =>
        rw [h2] at h
        cases h
        exact .cons (S.peekp a h1) (S.peeksp b h2)

theorem tof_op {f : D → D → (R → Prop) → Prop} {r : R2} {ia ib : TED} (o : O2 K f r) {Q : VK} (h : Tof K c (dOp f ia ib) σ H Q) : tOp r (Tof K c ia) (Tof K c ib) σ H Q := by
  obtain ⟨e, G, P, S, h, k⟩ := h
  refine ⟨e, G, _, S, h, fun ra e1 x G1 H1 h1 ex1 S1 r1 => ?_⟩
  obtain ⟨G1', ex1', S1', p1⟩ := S1.fzp r1
  refine ⟨e1, G1', _, S1', h1, fun rb e2 y G2 H2 h2 ex2 S2 r2 => ?_⟩
  obtain ⟨G2', ex2', S2', p2⟩ := S2.fzp r2
  obtain ⟨dx, hx, h3⟩ := bnd_inv h2
  obtain ⟨dy, hy, h4⟩ := bnd_inv h3
  exact o.ok G2' H2 x y dx dy _ _ S2'.sub (S2'.peekp (p1.ex (ex2.trans ex2')) hx) (S2'.peekp p2 hy) h4.go fun w z G3 H3 hz g rn =>
    k z e2 w G3 H3 hz ((ex1.trans ex1').trans ((ex2.trans ex2').trans g.g)) (S2'.grow g) (S2'.rn rn)
theorem tof_un {f : D → (R → Prop) → Prop} {r : V → Hp → VK → Prop} {ia : TED} (o : O1 K f r) {Q : VK} (h : Tof K c (dUn f ia) σ H Q) : tUn r (Tof K c ia) σ H Q := by
  obtain ⟨e, G, P, S, h, k⟩ := h
  refine ⟨e, G, _, S, h, fun ra e1 x G1 H1 h1 ex1 S1 r1 => ?_⟩
  obtain ⟨G1', ex1', S1', p1⟩ := S1.fzp r1
  obtain ⟨dx, hx, h3⟩ := bnd_inv h1
  exact o.ok G1' H1 x dx _ _ S1'.sub (S1'.peekp p1 hx) h3.go fun w z G3 H3 hz g rn => k z e1 w G3 H3 hz ((ex1.trans ex1').trans g.g) (S1'.grow g) (S1'.rn rn)
theorem tofa_nil {Q : List V → Hp → Prop} (h : TofA K c dNil σ H Q) : tNil σ H Q := by
  obtain ⟨e, G, P, S, h, k⟩ := h
  exact k _ _ [] G H h Ex.refl S .nil
theorem tofa_cons {ia : TED} {ta : TAD} {Q : List V → Hp → Prop} (h : TofA K c (dCons ia ta) σ H Q) : tCons (Tof K c ia) (TofA K c ta) σ H Q := by
  obtain ⟨e, G, P, S, h, k⟩ := h
  refine ⟨e, G, _, S, h, fun ra e1 x G1 H1 h1 ex1 S1 r1 => ?_⟩
  obtain ⟨G1', ex1', S1', p1⟩ := S1.fzp r1
  exact ⟨e1, G1', _, S1', h1, fun rs e2 ys G2 H2 h2 ex2 S2 r2 => k (ra.fz :: rs) e2 (x :: ys) G2 H2 h2 ((ex1.trans ex1').trans ex2) S2 (.cons (p1.ex ex2) r2)⟩
theorem tof_b {f : List D → (R → Prop) → Prop} {r : List V → Hp → VK → Prop} {ta : TAD} (o : ON K f r) {Q : VK} (h : Tof K c (dB f ta) σ H Q) : tCB r (TofA K c ta) σ H Q := by
  obtain ⟨e, G, P, S, h, k⟩ := h
  refine ⟨e, G, _, S, h, fun rs e1 xs G1 H1 h1 ex1 S1 r1 => ?_⟩
  obtain ⟨ds, hx, h3⟩ := bnd_inv h1
  exact o.ok G1 H1 xs ds _ _ S1.sub (S1.peeksp r1 hx) h3.go fun w z G3 H3 hz g rn => k z e1 w G3 H3 hz (ex1.trans g.g) (S1.grow g) (S1.rn rn)
theorem tof_m {f : D → List D → (R → Prop) → Prop} {ty : D → Bool} {T : String} {r : V → List V → Hp → VK → Prop} {ia : TED} {ta : TAD} (o : OM K f r) (t : ∀ G H v x, Ex G H → PK K G H v x → ty x = true → tyV K T v H) {Q : VK}
    (h : Tof K c (dM f ty ia ta) σ H Q) : tBM K T r (Tof K c ia) (TofA K c ta) σ H Q := by
  obtain ⟨e, G, P, S, h, k⟩ := h
  refine ⟨e, G, _, S, h, fun ra e1 x G1 H1 h1 ex1 S1 r1 => ?_⟩
  obtain ⟨G1', ex1', S1', p1⟩ := S1.fzp r1
  obtain ⟨dx, hx, hty, h3⟩ := bnd_inv h1
  refine ⟨t _ _ x dx S1'.sub (S1'.peekp p1 hx) hty, e1, G1', _, S1', h3, fun rs e2 xs G2 H2 h2 ex2 S2 r2 => ?_⟩
  obtain ⟨dx', hx', h4⟩ := bnd_inv h2
  obtain ⟨ds, hds, h5⟩ := bnd_inv h4
  exact o.ok G2 H2 x dx' xs ds _ _ S2.sub (S2.peekp (p1.ex ex2) hx') (S2.peeksp r2 hds) h5.go fun w z G3 H3 hz g rn => k z e2 w G3 H3 hz ((ex1.trans ex1').trans (ex2.trans g.g)) (S2.grow g) (S2.rn rn)
theorem tof_m0 {f : D → List D → (R → Prop) → Prop} {ty : D → Bool} {T : String} {r : V → List V → Hp → VK → Prop} {ia : TED} (o : OM K f r) (t : ∀ G H v x, Ex G H → PK K G H v x → ty x = true → tyV K T v H) {Q : VK}
    (h : Tof K c (dM f ty ia dNil) σ H Q) : tBM0 K T r (Tof K c ia) σ H Q := by
  obtain ⟨e, G, P, S, h, k⟩ := h
  refine ⟨e, G, _, S, h, fun ra e1 x G1 H1 h1 ex1 S1 r1 => ?_⟩
  obtain ⟨G1', ex1', S1', p1⟩ := S1.fzp r1
  obtain ⟨dx, hx, hty, h3⟩ := bnd_inv h1
  refine ⟨t _ _ x dx S1'.sub (S1'.peekp p1 hx) hty, ?_⟩
  obtain ⟨dx', hx', h4⟩ := bnd_inv h3
  obtain ⟨ds, hds, h5⟩ := bnd_inv h4
  exact o.ok G1' H1 x dx' [] ds _ _ S1'.sub (S1'.peekp p1 hx') (S1'.peeksp .nil hds) h5.go fun w z G3 H3 hz g rn => k z e1 w G3 H3 hz ((ex1.trans ex1').trans g.g) (S1'.grow g) (S1'.rn rn)
variable {a b x : Expr} {xs es : List Expr} {ia ib : TED} {ta : TAD} {pos : Pos}
theorem pd_op {op : Operator} {f : D → D → (R → Prop) → Prop} {r : R2} (ho : OpR X (binaryOp op) r) (o : O2 X.K f r) (ha : PD X io a ia) (hb : PD X io b ib) : PD X io (.BinOp a op b pos) (dOp f ia ib) :=
  ⟨fun c hc => PE_imp (pe_op ho (ha.pe c hc) (hb.pe c hc)) fun _ _ _ => tof_op o⟩
theorem pd_cmp {op : CmpOp} {f : D → D → (R → Prop) → Prop} {r : R2} (ho : OpR X (compareOp op) r) (o : O2 X.K f r) (ha : PD X io a ia) (hb : PD X io b ib) (hm : behindInMarks op b = false := by rfl) : PD X io (.Compare a [op] [b] pos) (dOp f ia ib) :=
  ⟨fun c hc => PE_imp (pe_cmpR ho (ha.pe c hc) (hb.pe c hc) hm) fun _ _ _ => tof_op o⟩
theorem pd_un {op : UnaryOp} {f : D → (R → Prop) → Prop} {r : V → Hp → VK → Prop} (ho : UnR X (unaryOp op) r) (o : O1 X.K f r) (ha : PD X io a ia) : PD X io (.UnaryOp op a pos) (dUn f ia) :=
  ⟨fun c hc => PE_imp (pe_un ho (ha.pe c hc)) fun _ _ _ => tof_un o⟩
theorem pd_ix {f : D → D → (R → Prop) → Prop} {r : R2} (hr : IxR X r) (o : O2 X.K f r) (ha : PD X io a ia) (hb : PD X io b ib) (hs : PlainIx b := by exact fun _ _ => rfl) : PD X io (.Subscript a b pos) (dOp f ia ib) :=
  ⟨fun c hc => PE_imp (pe_ix hr (ha.pe c hc) (hb.pe c hc) hs) fun _ _ _ => tof_op o⟩
theorem pad_nil : PAD X io [] dNil := ⟨fun c hc => PA_imp pa_nil fun _ _ _ => tofa_nil⟩
theorem pad_cons (h : PD X io a ia) (hr : PAD X io es ta) (hs : starEach (a :: es) X.env = (false, eval a X.env) :: starEach es X.env := by rfl) : PAD X io (a :: es) (dCons ia ta) :=
  ⟨fun c hc => PA_imp (pa_cons (h.pe c hc) (hr.pa c hc) hs) fun _ _ _ => tofa_cons⟩

/-! ### tuples and lists written -/
theorem R.fz_fz (r : R) : r.fz.fz = r.fz := by cases r <;> rfl
/-- what is stored into a structure: a list that a slot owns is shared from there on -/
def leak (r : R) (e : List Sl) : Option (D × List Sl) := match r with
  | .val d => some (d, e)
  | .fr xs => some (.list xs, e)
  | .loc j => match e[j]? with
    | some (.sh d) => some (d, e)
    | some (.ol xs) => some (.list xs, e.set j (.sh (.list xs)))
    | _ => none
def leaks : List R → List Sl → Option (List D × List Sl)
  | [], e => some ([], e)
  | r :: rs, e => (leak r e).bind fun p => (leaks rs p.2).map fun q => (p.1 :: q.1, q.2)
theorem SR.leakp {e e' : List Sl} {G : Hp} (S : SR K c e G σ H) {v : V} {r : R} {d : D} (h : RP K G σ v r) (l : HD.leak r e = some (d, e')) : ∃ G', Ex G G' ∧ SR K c e' G' σ H ∧ Dp K G' v d := by
  cases r with
  | val d' =>
    cases l
    exact ⟨G, Ex.refl, S, h⟩
  | fr xs => exact h.elim
  | loc j =>
    simp only [HD.leak] at l
    split at l
    · rename_i d' he
      cases l
      obtain ⟨v', q, r⟩ := S.sh j _ he
      have : v' = v := Option.some.inj (Option.some.inj (q.symm.trans h))
      subst this
      exact ⟨G, Ex.refl, S, r⟩
    · rename_i xs he
      cases l
      obtain ⟨G', ex, S', v', q, r⟩ := S.leak he
      have : v' = v := Option.some.inj (Option.some.inj (q.symm.trans h))
      subst this
      exact ⟨G', ex, S', r⟩
    · cases l
theorem SR.leaksp : ∀ {vs : List V} {rs : List R} {ds : List D} {e e' : List Sl} {G : Hp}, SR K c e G σ H → RPs K G σ vs rs → leaks rs e = some (ds, e') → ∃ G', Ex G G' ∧ SR K c e' G' σ H ∧ DpAll K G' vs ds
  | _, _, _, _, _, G, S, .nil, h => by
    cases h
    exact ⟨G, Ex.refl, S, .nil⟩
  | _, r :: rs, ds, e, e', G, S, .cons a b, h => by
    simp only [leaks] at h
    cases h1 : HD.leak r e with
    | none => rw [h1] at h; cases h
    | some p =>
      obtain ⟨d, e1⟩ := p
      rw [h1] at h
      simp only [Option.bind_some] at h
      cases h2 : leaks rs e1 with
      | none => rw [h2] at h; cases h
      | some q =>
        obtain ⟨ds', e2⟩ := q
        rw [h2] at h
        cases h
        obtain ⟨G1, ex1, S1, d1⟩ := S.leakp a h1
        obtain ⟨G2, ex2, S2, d2⟩ := SR.leaksp S1 (b.ex ex1) h2
        exact ⟨G2, ex1.trans ex2, S2, .cons (ex2.dp d1) d2⟩
def dTup (ta : TAD) : TED := fun e Q => ta e fun rs e1 => bnd (leaks rs e1) fun p => p.1.length ≤ 1000 ∧ Q (.val (.tuple p.1)) p.2
def dLst (ta : TAD) : TED := fun e Q => ta e fun rs e1 => bnd (leaks rs e1) fun p => p.1.length ≤ 1000 ∧ Q (.fr p.1) p.2
theorem le1000 {n : Nat} (h : n ≤ 1000) : n ≤ sizeLine := Nat.le_trans h (by decide)
theorem tof_tup {Q : VK} (h : Tof K c (dTup ta) σ H Q) : tTup (TofA K c ta) σ H Q := by
  obtain ⟨e, G, P, S, h, k⟩ := h
  refine ⟨e, G, _, S, h, fun rs e1 xs G1 H1 h1 ex1 S1 r1 => ?_⟩
  obtain ⟨⟨ds, e2⟩, hl, hz, h2⟩ := bnd_inv h1
  obtain ⟨G2, ex2, S2, d2⟩ := S1.leaksp r1 hl
  refine ⟨by rw [dpa_len d2]; exact le1000 hz, fun p hp => ?_⟩
  have g := Gr.new (o := .tup xs) S2.sub hp
  exact k _ e2 (.ref p) _ _ h2 ((ex1.trans ex2).trans g.g) (S2.grow g) (.tup (.inl (.inl upd_same)) (g.g.dpa d2))
theorem tof_lst {Q : VK} (h : Tof K c (dLst ta) σ H Q) : tLst (TofA K c ta) σ H Q := by
  obtain ⟨e, G, P, S, h, k⟩ := h
  refine ⟨e, G, _, S, h, fun rs e1 xs G1 H1 h1 ex1 S1 r1 => ?_⟩
  obtain ⟨⟨ds, e2⟩, hl, hz, h2⟩ := bnd_inv h1
  obtain ⟨G2, ex2, S2, d2⟩ := S1.leaksp r1 hl
  refine ⟨by rw [dpa_len d2]; exact le1000 hz, fun p hp => ?_⟩
  have g := Gr.own (o := .lst xs) S2.sub hp
  exact k _ e2 (.ref p) _ _ h2 ((ex1.trans ex2).trans g.g) (S2.grow g) (S2.rn (r := .fr ds) ⟨p, xs, rfl, upd_same, S2.sub.back hp, d2, hp⟩)
theorem pd_tup {x1} (h : PAD X io es ta) : PD X io (.Tuple es x1 pos) (dTup ta) := ⟨fun c hc => PE_imp (pe_tup (h.pa c hc)) fun _ _ _ => tof_tup⟩
theorem pd_lst (h : PAD X io es ta) : PD X io (.List es pos) (dLst ta) := ⟨fun c hc => PE_imp (pe_lst (h.pa c hc)) fun _ _ _ => tof_lst⟩

/-! ### tests -/
def asB : D → Option Bool
  | .bool b => some b
  | _ => none
def dT (ia : TED) : TTD := fun e Q => ia e fun ra e1 => bnd (peek e1 ra.fz) fun x => bnd (asB x) fun b => Q b e1
def dAnd (t u : TTD) : TTD := fun e Q => t e fun b e1 => br b (u e1 Q) (Q false e1)
def dOr (t u : TTD) : TTD := fun e Q => t e fun b e1 => br b (Q true e1) (u e1 Q)
def dNot (t : TTD) : TTD := fun e Q => t e fun b e1 => Q (!b) e1
theorem asB_pk {G : Hp} {v : V} {d : D} {k : Bool} (h : PK K G H v d) (e : asB d = some k) : v = .bl k := by
  cases d with
  | bool b =>
    cases e
    exact h.bool
  | _ => cases e
theorem toft_b {ia : TED} {Q : Bool → Hp → Prop} (h : TofT K c (dT ia) σ H Q) : tTest (Tof K c ia) σ H Q := by
  obtain ⟨e, G, P, S, h, k⟩ := h
  refine ⟨e, G, _, S, h, fun ra e1 x G1 H1 h1 ex1 S1 r1 => ?_⟩
  obtain ⟨G1', ex1', S1', p1⟩ := S1.fzp r1
  obtain ⟨dx, hx, h3⟩ := bnd_inv h1
  obtain ⟨b, hb, h4⟩ := bnd_inv h3
  exact ⟨b, asB_pk (S1'.peekp p1 hx) hb, k b e1 G1' H1 h4 (ex1.trans ex1') S1'⟩
theorem toft_op {f : D → D → (R → Prop) → Prop} {r : R2} {ia ib : TED} (o : O2 K f r) {Q : Bool → Hp → Prop} (h : TofT K c (dT (dOp f ia ib)) σ H Q) : tTest (tOp r (Tof K c ia) (Tof K c ib)) σ H Q := tof_op o (toft_b h)
theorem ptd_cmp {op : CmpOp} {f : D → D → (R → Prop) → Prop} {r : R2} (ho : OpR X (compareOp op) r) (o : O2 X.K f r) (ha : PD X io a ia) (hb : PD X io b ib) (hm : behindInMarks op b = false := by rfl) : PTD X io (.Compare a [op] [b] pos) (dT (dOp f ia ib)) :=
  ⟨fun c hc => PT_imp (pt_cmpR ho (ha.pe c hc) (hb.pe c hc) hm) fun _ _ _ => toft_op o⟩
/-- an expression that is a bool -/
theorem ptd_val (ha : PD X io a ia) (he : ∀ whole, isTrue a X.env whole = (do let v ← whole; standAt a.pos; holding [v] (truthy v)) := by intro _; rfl) : PTD X io a (dT ia) :=
  ⟨fun c hc => PT_imp (pt_val (ha.pe c hc) he) fun _ _ _ => toft_b⟩
structure PWD (X : Cx) (io : List Nat) (x : Expr) (ir : TTD) : Prop where
  pw : ∀ c : C0, c.ios = io → PW X x (TofT X.K c ir)
theorem PWD.pt {ir : TTD} (h : PWD X io x ir) : PTD X io x ir := ⟨fun c hc => (h.pw c hc).pt⟩
theorem toft_and {t u : TTD} {Q : Bool → Hp → Prop} (h : TofT K c (dAnd t u) σ H Q) : tAnd (TofT K c t) (TofT K c u) σ H Q := by
  obtain ⟨e, G, P, S, h, k⟩ := h
  refine ⟨e, G, _, S, h, fun b e1 G1 H1 h1 ex1 S1 => ?_⟩
  cases b with
  | true => exact ⟨e1, G1, _, S1, h1.1 rfl, fun b' e2 G2 H2 h2 ex2 S2 => k b' e2 G2 H2 h2 (ex1.trans ex2) S2⟩
  | false => exact k false e1 G1 H1 (h1.2 rfl) ex1 S1
theorem toft_or {t u : TTD} {Q : Bool → Hp → Prop} (h : TofT K c (dOr t u) σ H Q) : tOr (TofT K c t) (TofT K c u) σ H Q := by
  obtain ⟨e, G, P, S, h, k⟩ := h
  refine ⟨e, G, _, S, h, fun b e1 G1 H1 h1 ex1 S1 => ?_⟩
  cases b with
  | false => exact ⟨e1, G1, _, S1, h1.2 rfl, fun b' e2 G2 H2 h2 ex2 S2 => k b' e2 G2 H2 h2 (ex1.trans ex2) S2⟩
  | true => exact k true e1 G1 H1 (h1.1 rfl) ex1 S1
theorem toft_not {t : TTD} {Q : Bool → Hp → Prop} (h : TofT K c (dNot t) σ H Q) : tNot (TofT K c t) σ H Q := by
  obtain ⟨e, G, P, S, h, k⟩ := h
  exact ⟨e, G, _, S, h, fun b e1 G1 H1 h1 ex1 S1 => k _ e1 G1 H1 h1 ex1 S1⟩
theorem pwd_and1 {t : TTD} (h : PTD X io a t) : PWD X io (.BoolOp .And [a] pos) t := ⟨fun c hc => pw_and1 (h.pt c hc)⟩
theorem pwd_or1 {t : TTD} (h : PTD X io a t) : PWD X io (.BoolOp .Or [a] pos) t := ⟨fun c hc => pw_or1 (h.pt c hc)⟩
theorem pwd_and {t u : TTD} (h : PTD X io a t) (h2 : PWD X io (.BoolOp .And (b :: es) pos) u) : PWD X io (.BoolOp .And (a :: b :: es) pos) (dAnd t u) := ⟨fun c hc => PW_imp (pw_and (h.pt c hc) (h2.pw c hc)) fun _ _ _ => toft_and⟩
theorem pwd_or {t u : TTD} (h : PTD X io a t) (h2 : PWD X io (.BoolOp .Or (b :: es) pos) u) : PWD X io (.BoolOp .Or (a :: b :: es) pos) (dOr t u) := ⟨fun c hc => PW_imp (pw_or (h.pt c hc) (h2.pw c hc)) fun _ _ _ => toft_or⟩
theorem ptd_not {t : TTD} (h : PTD X io a t) : PTD X io (.UnaryOp .Not a pos) (dNot t) := ⟨fun c hc => PT_imp (pt_not (h.pt c hc)) fun _ _ _ => toft_not⟩
/-- a and b, as values (bools, but the last) -/
def dAndV (ia ib : TED) : TED := fun e Q => ia e fun ra e1 => bnd (peek e1 ra.fz) fun x => bnd (asB x) fun k => br k (ib e1 Q) (Q (.val (.bool false)) e1)
def dOrV (ia ib : TED) : TED := fun e Q => ia e fun ra e1 => bnd (peek e1 ra.fz) fun x => bnd (asB x) fun k => br k (Q (.val (.bool true)) e1) (ib e1 Q)
def dNotV (ia : TED) : TED := fun e Q => ia e fun ra e1 => bnd (peek e1 ra.fz) fun x => bnd (asB x) fun k => Q (.val (.bool (!k))) e1
def dIf (t : TTD) (ia ib : TED) : TED := fun e Q => t e fun b e1 => br b (ia e1 Q) (ib e1 Q)
theorem tof_andV {Q : VK} (h : Tof K c (dAndV ia ib) σ H Q) : tAndV (Tof K c ia) (Tof K c ib) σ H Q := by
  obtain ⟨e, G, P, S, h, k⟩ := h
  refine ⟨e, G, _, S, h, fun ra e1 x G1 H1 h1 ex1 S1 r1 => ?_⟩
  obtain ⟨G1', ex1', S1', p1⟩ := S1.fzp r1
  obtain ⟨dx, hx, h3⟩ := bnd_inv h1
  obtain ⟨b, hb, h4⟩ := bnd_inv h3
  refine ⟨b, asB_pk (S1'.peekp p1 hx) hb, ?_⟩
  cases b with
  | true => exact ⟨e1, G1', _, S1', h4.1 rfl, fun r' e2 v2 G2 H2 h2 ex2 S2 r2 => k r' e2 v2 G2 H2 h2 ((ex1.trans ex1').trans ex2) S2 r2⟩
  | false => exact k _ e1 _ G1' H1 (h4.2 rfl) (ex1.trans ex1') S1' (.bl false)
theorem tof_orV {Q : VK} (h : Tof K c (dOrV ia ib) σ H Q) : tOrV (Tof K c ia) (Tof K c ib) σ H Q := by
  obtain ⟨e, G, P, S, h, k⟩ := h
  refine ⟨e, G, _, S, h, fun ra e1 x G1 H1 h1 ex1 S1 r1 => ?_⟩
  obtain ⟨G1', ex1', S1', p1⟩ := S1.fzp r1
  obtain ⟨dx, hx, h3⟩ := bnd_inv h1
  obtain ⟨b, hb, h4⟩ := bnd_inv h3
  refine ⟨b, asB_pk (S1'.peekp p1 hx) hb, ?_⟩
  cases b with
  | false => exact ⟨e1, G1', _, S1', h4.2 rfl, fun r' e2 v2 G2 H2 h2 ex2 S2 r2 => k r' e2 v2 G2 H2 h2 ((ex1.trans ex1').trans ex2) S2 r2⟩
  | true => exact k _ e1 _ G1' H1 (h4.1 rfl) (ex1.trans ex1') S1' (.bl true)
theorem tof_notV {Q : VK} (h : Tof K c (dNotV ia) σ H Q) : tNotV (Tof K c ia) σ H Q := by
  obtain ⟨e, G, P, S, h, k⟩ := h
  refine ⟨e, G, _, S, h, fun ra e1 x G1 H1 h1 ex1 S1 r1 => ?_⟩
  obtain ⟨G1', ex1', S1', p1⟩ := S1.fzp r1
  obtain ⟨dx, hx, h3⟩ := bnd_inv h1
  obtain ⟨b, hb, h4⟩ := bnd_inv h3
  exact ⟨b, asB_pk (S1'.peekp p1 hx) hb, k _ e1 _ G1' H1 h4 (ex1.trans ex1') S1' (.bl _)⟩
theorem tof_if {t : TTD} {Q : VK} (h : Tof K c (dIf t ia ib) σ H Q) : tIf (TofT K c t) (Tof K c ia) (Tof K c ib) σ H Q := by
  obtain ⟨e, G, P, S, h, k⟩ := h
  refine ⟨e, G, _, S, h, fun b e1 G1 H1 h1 ex1 S1 => ?_⟩
  cases b with
  | true => exact ⟨e1, G1, _, S1, h1.1 rfl, fun r' e2 v2 G2 H2 h2 ex2 S2 r2 => k r' e2 v2 G2 H2 h2 (ex1.trans ex2) S2 r2⟩
  | false => exact ⟨e1, G1, _, S1, h1.2 rfl, fun r' e2 v2 G2 H2 h2 ex2 S2 r2 => k r' e2 v2 G2 H2 h2 (ex1.trans ex2) S2 r2⟩
theorem pd_one {op} (h : PD X io a ia) : PD X io (.BoolOp op [a] pos) ia := ⟨fun c hc => pe_one (h.pe c hc)⟩
theorem pd_and (ha : PD X io a ia) (hb : PD X io (.BoolOp .And (b :: es) pos) ib) : PD X io (.BoolOp .And (a :: b :: es) pos) (dAndV ia ib) := ⟨fun c hc => PE_imp (pe_and (ha.pe c hc) (hb.pe c hc)) fun _ _ _ => tof_andV⟩
theorem pd_or (ha : PD X io a ia) (hb : PD X io (.BoolOp .Or (b :: es) pos) ib) : PD X io (.BoolOp .Or (a :: b :: es) pos) (dOrV ia ib) := ⟨fun c hc => PE_imp (pe_or (ha.pe c hc) (hb.pe c hc)) fun _ _ _ => tof_orV⟩
theorem pd_not (ha : PD X io a ia) : PD X io (.UnaryOp .Not a pos) (dNotV ia) := ⟨fun c hc => PE_imp (pe_not (ha.pe c hc)) fun _ _ _ => tof_notV⟩
theorem pd_if {t : TTD} (hx : PTD X io x t) (ha : PD X io a ia) (hb : PD X io b ib) : PD X io (.IfExp x a b pos) (dIf t ia ib) := ⟨fun c hc => PE_imp (pe_ifExp (hx.pt c hc) (ha.pe c hc) (hb.pe c hc)) fun _ _ _ => tof_if⟩
end
end HD


set_option Elab.async false
set_option linter.all false
set_option maxRecDepth 100000
set_option maxHeartbeats 4000000
namespace HD
open PySem PySem.Spec PyProof.Rows L2

/-! ### statements -/
structure DE where
  nx : List Sl → Prop
  rt : R → List Sl → Prop
  bk : List Sl → Prop := fun _ => False
  ct : List Sl → Prop := fun _ => False
abbrev TSD := DE → List Sl → Prop
structure Lk (K : PySem.W.Frag) (c : C0) (G : Hp) (De : DE) (E : Ends) : Prop where
  nx : ∀ e' G' σ' H', De.nx e' → Ex G G' → SR K c e' G' σ' H' → E.nx σ' H'
  bk : ∀ e' G' σ' H', De.bk e' → Ex G G' → SR K c e' G' σ' H' → E.bk σ' H'
  ct : ∀ e' G' σ' H', De.ct e' → Ex G G' → SR K c e' G' σ' H' → E.ct σ' H'
  rt : ∀ r e' v G' σ' H', De.rt r e' → Ex G G' → SR K c e' G' σ' H' → RR K c e' G' σ' H' v r → E.rt v H'
theorem Lk.on {K : PySem.W.Frag} {c : C0} {G G' : Hp} {De : DE} {E : Ends} (l : Lk K c G De E) (ex : Ex G G') : Lk K c G' De E :=
  ⟨fun e' G2 σ' H' a b d => l.nx e' G2 σ' H' a (ex.trans b) d, fun e' G2 σ' H' a b d => l.bk e' G2 σ' H' a (ex.trans b) d, fun e' G2 σ' H' a b d => l.ct e' G2 σ' H' a (ex.trans b) d,
    fun r e' v G2 σ' H' a b d f => l.rt r e' v G2 σ' H' a (ex.trans b) d f⟩
def TofS (K : PySem.W.Frag) (c : C0) (t : TSD) : TS := fun E σ H => ∃ e G De, SR K c e G σ H ∧ t De e ∧ Lk K c G De E
structure PSD (X : Cx) (io : List Nat) (x : Stmt) (t : TSD) : Prop where
  ps : ∀ c : C0, c.ios = io → PS X x (TofS X.K c t)
structure PSsD (X : Cx) (io : List Nat) (x : List Stmt) (t : TSD) : Prop where
  ps : ∀ c : C0, c.ios = io → PSs X x (TofS X.K c t)
def put (i : Nat) (r : R) (e : List Sl) : Option (List Sl) := match r with
  | .fr xs => some (e.set i (.ol xs))
  | r => (leak r e).map fun p => p.2.set i (.sh p.1)

section
variable {K : PySem.W.Frag} {c : C0} {io : List Nat} {e e' : List Sl} {G H G' H' : Hp} {σ : L2.St} {X : Cx}
theorem SR.putD (S : SR K c e G σ H) {i : Nat} {v : V} {d : D} (n : i ∉ c.ios) (h : Dp K G v d) : SR K c (e.set i (.sh d)) G (σ.set i (some v)) H where
  sub := S.sub
  keep := S.keep
  gk := S.gk
  dom := S.dom
  ioh := S.ioh
  len := by rw [List.length_set, List.length_set]; exact S.len
  sh := fun j d' hj => by
    by_cases z : j = i
    · subst z
      have hl : j < e.length := by
        have := (List.getElem?_eq_some_iff.mp hj).1
        rwa [List.length_set] at this
      rw [List.getElem?_set_self hl] at hj
      cases hj
      exact ⟨v, by rw [List.getElem?_set_self (by rw [← S.len]; exact hl)], h⟩
    · rw [List.getElem?_set_ne (Ne.symm z)] at hj ⊢
      exact S.sh j d' hj
  ol := fun j xs hj => by
    by_cases z : j = i
    · subst z
      have hl : j < e.length := by
        have := (List.getElem?_eq_some_iff.mp hj).1
        rwa [List.length_set] at this
      rw [List.getElem?_set_self hl] at hj
      cases hj
    · rw [List.getElem?_set_ne (Ne.symm z)] at hj ⊢
      exact S.ol j xs hj
  inj := fun j k xs ys a hj hk => by
    have z1 : j ≠ i := fun z => by
      subst z
      have hl : j < e.length := by
        have := (List.getElem?_eq_some_iff.mp hj).1
        rwa [List.length_set] at this
      rw [List.getElem?_set_self hl] at hj
      cases hj
    have z2 : k ≠ i := fun z => by
      subst z
      have hl : k < e.length := by
        have := (List.getElem?_eq_some_iff.mp hk).1
        rwa [List.length_set] at this
      rw [List.getElem?_set_self hl] at hk
      cases hk
    rw [List.getElem?_set_ne (Ne.symm z1)] at hj
    rw [List.getElem?_set_ne (Ne.symm z2)] at hk
    rw [List.getElem?_set_ne (Ne.symm z1), List.getElem?_set_ne (Ne.symm z2)]
    exact S.inj j k xs ys a hj hk
  io := fun j hj => by
    rw [List.getElem?_set_ne (fun z => n (by rw [z]; exact hj))]
    exact S.io j hj
  pin := fun p hp => by
    obtain ⟨a, b, d', f⟩ := S.pin p hp
    refine ⟨a, b, d', fun j xs hj => ?_⟩
    have z1 : j ≠ i := fun z => by
      subst z
      have hl : j < e.length := by
        have := (List.getElem?_eq_some_iff.mp hj).1
        rwa [List.length_set] at this
      rw [List.getElem?_set_self hl] at hj
      cases hj
    rw [List.getElem?_set_ne (Ne.symm z1)] at hj ⊢
    exact f j xs hj
  pnd := S.pnd
theorem SR.putO (S : SR K c e G σ H) {i : Nat} {v : V} {xs : List D} (n : i ∉ c.ios) (h : RR K c e G σ H v (.fr xs)) : SR K c (e.set i (.ol xs)) G (σ.set i (some v)) H := by
  obtain ⟨a, vs, rfl, q, ga, da, h0, pp, ff⟩ := h
  refine ⟨S.sub, S.keep, S.gk, S.dom, S.ioh, by rw [List.length_set, List.length_set]; exact S.len, fun j d' hj => ?_, fun j ys hj => ?_, fun j k ys zs b hj hk sj sk => ?_, fun j hj => ?_, fun p hp => ?_, S.pnd⟩
  · by_cases z : j = i
    · subst z
      have hl : j < e.length := by
        have := (List.getElem?_eq_some_iff.mp hj).1
        rwa [List.length_set] at this
      rw [List.getElem?_set_self hl] at hj
      cases hj
    · rw [List.getElem?_set_ne (Ne.symm z)] at hj ⊢
      exact S.sh j d' hj
  · by_cases z : j = i
    · subst z
      have hl : j < e.length := by
        have := (List.getElem?_eq_some_iff.mp hj).1
        rwa [List.length_set] at this
      rw [List.getElem?_set_self hl] at hj
      cases hj
      exact ⟨a, vs, by rw [List.getElem?_set_self (by rw [← S.len]; exact hl)], q, ga, da, .inl h0⟩
    · rw [List.getElem?_set_ne (Ne.symm z)] at hj ⊢
      exact S.ol j ys hj
  · have key : ∀ m ws, (e.set i (.ol xs))[m]? = some (Sl.ol ws) → (σ.set i (some (V.ref a)))[m]? = some (some (V.ref b)) → (m = i ∧ b = a) ∨ (m ≠ i ∧ e[m]? = some (.ol ws) ∧ σ[m]? = some (some (.ref b))) := fun m ws hm sm => by
      by_cases z : m = i
      · subst z
        have hl : m < e.length := by
          have := (List.getElem?_eq_some_iff.mp hm).1
          rwa [List.length_set] at this
        rw [List.getElem?_set_self (by rw [← S.len]; exact hl)] at sm
        cases sm
        exact .inl ⟨rfl, rfl⟩
      · rw [List.getElem?_set_ne (Ne.symm z)] at hm sm
        exact .inr ⟨z, hm, sm⟩
    rcases key j ys hj sj with ⟨z1, z2⟩ | ⟨z1, z2, z3⟩
    · rcases key k zs hk sk with ⟨y1, y2⟩ | ⟨y1, y2, y3⟩
      · rw [z1, y1]
      · exact (ff k zs y2 (by rw [y3, z2])).elim
    · rcases key k zs hk sk with ⟨y1, y2⟩ | ⟨y1, y2, y3⟩
      · exact (ff j ys z2 (by rw [z3, y2])).elim
      · exact S.inj j k ys zs b z2 y2 z3 y3
  · rw [List.getElem?_set_ne (fun z => n (by rw [z]; exact hj))]
    exact S.io j hj
  · obtain ⟨p1, p2, p3, p4⟩ := S.pin p hp
    refine ⟨p1, p2, p3, fun j ys hj sj => ?_⟩
    by_cases z : j = i
    · subst z
      have hl : j < e.length := by
        have := (List.getElem?_eq_some_iff.mp hj).1
        rwa [List.length_set] at this
      rw [List.getElem?_set_self (by rw [← S.len]; exact hl)] at sj
      injection sj with sj
      injection sj with sj
      injection sj with sj
      exact pp p hp sj.symm
    · rw [List.getElem?_set_ne (Ne.symm z)] at hj sj
      exact p4 j ys hj sj
theorem SR.put (S : SR K c e G σ H) {i : Nat} {v : V} {r : R} (n : i ∉ c.ios) (h : RR K c e G σ H v r) (p : HD.put i r e = some e') : ∃ G', Ex G G' ∧ SR K c e' G' (σ.set i (some v)) H := by
  cases r with
  | fr xs =>
    cases p
    exact ⟨G, Ex.refl, S.putO n h⟩
  | val d =>
    cases p
    exact ⟨G, Ex.refl, S.putD n h⟩
  | loc j =>
    simp only [HD.put] at p
    cases hl : HD.leak (.loc j) e with
    | none => rw [hl] at p; cases p
    | some q =>
      obtain ⟨d, e1⟩ := q
      rw [hl] at p
      cases p
      obtain ⟨G1, ex, S1, dp⟩ := S.leakp (v := v) (r := .loc j) h hl
      exact ⟨G1, ex, S1.putD n dp⟩

def dAsg (i : Nat) (ir : TED) : TSD := fun De e => ir e fun r e1 => bnd (put i r e1) De.nx
def dDrop (ir : TED) : TSD := fun De e => ir e fun _ e1 => De.nx e1
def dRet (ir : TED) : TSD := fun De e => ir e fun r e1 => De.rt r e1
def dRetN : TSD := fun De e => De.rt (.val .none) e
def dNext : TSD := fun De e => De.nx e
def dSeq (t u : TSD) : TSD := fun De e => t { De with nx := u De } e
def dIfS (t : TTD) (a b : TSD) : TSD := fun De e => t e fun k e1 => br k (a De e1) (b De e1)
def dBreak : TSD := fun De e => De.bk e
def dCont : TSD := fun De e => De.ct e
theorem tofs_asg {i : Nat} {ir : TED} (n : i ∉ c.ios) {E : Ends} (h : TofS K c (dAsg i ir) E σ H) : tAsg (Tof K c ir) (gName i) E σ H := by
  obtain ⟨e, G, De, S, h, l⟩ := h
  refine ⟨e, G, _, S, h, fun r e1 v G1 H1 h1 ex1 S1 r1 => ?_⟩
  obtain ⟨e2, he, h2⟩ := bnd_inv h1
  obtain ⟨G2, ex2, S2⟩ := S1.put n r1 he
  exact l.nx e2 G2 _ H1 h2 (ex1.trans ex2) S2
theorem tofs_drop {ir : TED} {E : Ends} (h : TofS K c (dDrop ir) E σ H) : tDrop (Tof K c ir) E σ H := by
  obtain ⟨e, G, De, S, h, l⟩ := h
  exact ⟨e, G, _, S, h, fun r e1 v G1 H1 h1 ex1 S1 r1 => l.nx e1 G1 _ H1 h1 ex1 S1⟩
theorem tofs_ret {ir : TED} {E : Ends} (h : TofS K c (dRet ir) E σ H) : tRet (Tof K c ir) E σ H := by
  obtain ⟨e, G, De, S, h, l⟩ := h
  exact ⟨e, G, _, S, h, fun r e1 v G1 H1 h1 ex1 S1 r1 => l.rt r e1 v G1 _ H1 h1 ex1 S1 r1⟩
theorem tofs_seq {t u : TSD} {E : Ends} (h : TofS K c (dSeq t u) E σ H) : tSeq (TofS K c t) (TofS K c u) E σ H := by
  obtain ⟨e, G, De, S, h, l⟩ := h
  exact ⟨e, G, { De with nx := u De }, S, h, ⟨fun e' G' σ' H' a b d => ⟨e', G', De, d, a, l.on b⟩, l.bk, l.ct, l.rt⟩⟩
theorem tofs_if {t : TTD} {a b : TSD} {E : Ends} (h : TofS K c (dIfS t a b) E σ H) : tIfS (TofT K c t) (TofS K c a) (TofS K c b) E σ H := by
  obtain ⟨e, G, De, S, h, l⟩ := h
  refine ⟨e, G, _, S, h, fun k e1 G1 H1 h1 ex1 S1 => ?_⟩
  cases k with
  | true => exact ⟨e1, G1, De, S1, h1.1 rfl, l.on ex1⟩
  | false => exact ⟨e1, G1, De, S1, h1.2 rfl, l.on ex1⟩
variable {st : Stmt} {rest body els : List Stmt} {t u : TSD} {x a : Expr} {ia : TED} {pos : Pos}
theorem pssd_nil : PSsD X io [] dNext := ⟨fun c hc => PSs_imp pss_nil fun E σ H ⟨e, G, De, S, h, l⟩ => l.nx e G σ H h Ex.refl S⟩
theorem pssd_cons (h1 : PSD X io st t) (h2 : PSsD X io rest u) : PSsD X io (st :: rest) (dSeq t u) := ⟨fun c hc => PSs_imp (pss_cons (h1.ps c hc) (h2.ps c hc)) fun _ _ _ => tofs_seq⟩
theorem pssd_one (h1 : PSD X io st t) : PSsD X io [st] t := ⟨fun c hc => pss_one (h1.ps c hc)⟩
theorem psd_pass : PSD X io (.Pass pos) dNext := ⟨fun c hc => PS_imp ps_pass fun E σ H ⟨e, G, De, S, h, l⟩ => l.nx e G σ H h Ex.refl S⟩
theorem psd_break : PSD X io (.Break pos) dBreak := ⟨fun c hc => PS_imp ps_break fun E σ H ⟨e, G, De, S, h, l⟩ => l.bk e G σ H h Ex.refl S⟩
theorem psd_continue : PSD X io (.Continue pos) dCont := ⟨fun c hc => PS_imp ps_continue fun E σ H ⟨e, G, De, S, h, l⟩ => l.ct e G σ H h Ex.refl S⟩
theorem psd_set {i : Nat} {y : Str} {pos' : Pos} (hN : X.N.Nodup) (hi : X.N[i]? = some y) (hx : Loc X.env.scope y) (n : i ∉ io) (he : PD X io a ia) (hs : swapsWith a (some (.Name y pos')) pos.line X.env = pure false := by rfl)
    (hf : X.fn y = true ∨ X.env.scope.names.lookup y = some .local := by first | exact .inl rfl | exact .inr rfl | assumption) : PSD X io (.Assign [.Name y pos'] a pos) (dAsg i ia) :=
  ⟨fun c hc => PS_imp (ps_asg (he.pe c hc) (pg_name hN hi hx hf) hs) fun _ _ _ => tofs_asg (by rw [hc]; exact n)⟩
theorem psd_expr (he : PD X io a ia) (hs : swapsWith a none pos.line X.env = pure false := by rfl) : PSD X io (.Expr a pos) (dDrop ia) := ⟨fun c hc => PS_imp (ps_expr (he.pe c hc) hs) fun _ _ _ => tofs_drop⟩
theorem psd_ret (he : PD X io a ia) : PSD X io (.Return (some a) pos) (dRet ia) := ⟨fun c hc => PS_imp (ps_ret (he.pe c hc)) fun _ _ _ => tofs_ret⟩
theorem psd_retN : PSD X io (.Return none pos) dRetN := ⟨fun c hc => PS_imp ps_retN fun E σ H ⟨e, G, De, S, h, l⟩ => l.rt _ e .non G σ H h Ex.refl S .non⟩
theorem psd_if {tt : TTD} (ht : PTD X io x tt) (h1 : PSsD X io body t) (h2 : PSsD X io els u) : PSD X io (.If x body els pos) (dIfS tt t u) := ⟨fun c hc => PS_imp (ps_if (ht.pt c hc) (h1.ps c hc) (h2.ps c hc)) fun _ _ _ => tofs_if⟩

/-! ### targets -/
abbrev TGD := D → List Sl → (List Sl → Prop) → Prop
abbrev TGDs := List D → List Sl → (List Sl → Prop) → Prop
/-- alike but at the places ts -/
def Sm (ts : List Nat) (σ σ' : L2.St) : Prop := σ'.length = σ.length ∧ ∀ j, j ∉ ts → σ'[j]? = σ[j]?
theorem Sm.refl {ts : List Nat} {σ : L2.St} : Sm ts σ σ := ⟨rfl, fun _ _ => rfl⟩
theorem Sm.trans {ts us : List Nat} {σ σ' σ2 : L2.St} (a : Sm ts σ σ') (b : Sm us σ' σ2) : Sm (ts ++ us) σ σ2 :=
  ⟨b.1.trans a.1, fun j h => (b.2 j fun m => h (List.mem_append_right _ m)).trans (a.2 j fun m => h (List.mem_append_left _ m))⟩
def TofG (K : PySem.W.Frag) (c : C0) (ts : List Nat) (g : TGD) : TG := fun v σ H Q => ∃ e G d P, SR K c e G σ H ∧ Dp K G v d ∧ g d e P ∧ ∀ e' G' σ' H', P e' → Ex G G' → SR K c e' G' σ' H' → Sm ts σ σ' → Q σ' H'
def TofGs (K : PySem.W.Frag) (c : C0) (ts : List Nat) (g : TGDs) : TGs := fun v σ H Q => ∃ e G d P, SR K c e G σ H ∧ DpAll K G v d ∧ g d e P ∧ ∀ e' G' σ' H', P e' → Ex G G' → SR K c e' G' σ' H' → Sm ts σ σ' → Q σ' H'
structure PGD (X : Cx) (io : List Nat) (x : Expr) (ts : List Nat) (g : TGD) : Prop where
  pg : ∀ c : C0, c.ios = io → PG X x (TofG X.K c ts g)
structure PGDs (X : Cx) (io : List Nat) (x : List Expr) (ts : List Nat) (g : TGDs) : Prop where
  pg : ∀ c : C0, c.ios = io → PGs X x (TofGs X.K c ts g)
theorem PG_imp {tg : Expr} {t t' : TG} (h : PG X tg t) (i : ∀ v σ H Q, t' v σ H Q → t v σ H Q) : PG X tg t' := ⟨fun pins s σ H v u Q I r q => h.run pins s σ H v u Q I r (i v σ H Q q)⟩
theorem PGs_imp {tg : List Expr} {t t' : TGs} (h : PGs X tg t) (i : ∀ v σ H Q, t' v σ H Q → t v σ H Q) : PGs X tg t' := ⟨fun pins s σ H v u Q I r q => h.run pins s σ H v u Q I r (i v σ H Q q)⟩
def dgN (i : Nat) : TGD := fun d e Q => Q (e.set i (.sh d))
def dgNil : TGDs := fun ds e Q => match ds with
  | [] => Q e
  | _ => False
def dgCons (g : TGD) (gs : TGDs) : TGDs := fun ds e Q => match ds with
  | d :: ds => g d e fun e1 => gs ds e1 Q
  | _ => False
def dgTup (n : Nat) (gs : TGDs) : TGD := fun d e Q => match d with
  | .tuple ds => ds.length = n ∧ gs ds e Q
  | _ => False
theorem pgd_name {i : Nat} {y : Str} (hN : X.N.Nodup) (hi : X.N[i]? = some y) (hx : Loc X.env.scope y) (n : i ∉ io) (hf : X.fn y = true ∨ X.env.scope.names.lookup y = some .local := by first | exact .inl rfl | exact .inr rfl | assumption) : PGD X io (.Name y pos) [i] (dgN i) :=
  ⟨fun c hc => PG_imp (pg_name hN hi hx hf) fun v σ H Q ⟨e, G, d, P, S, dp, h, k⟩ => k _ G _ H h Ex.refl (S.putD (by rw [hc]; exact n) dp) ⟨by rw [List.length_set], fun j hj => List.getElem?_set_ne (fun z => hj (by rw [z]; exact List.mem_singleton_self _))⟩⟩
theorem pgds_nil : PGDs X io [] [] dgNil := ⟨fun c hc => PGs_imp pgs_nil fun v σ H Q ⟨e, G, d, P, S, dp, h, k⟩ => by
  cases d with
  | nil =>
    cases dp
    exact ⟨rfl, k e G σ H h Ex.refl S Sm.refl⟩
  | cons => exact h.elim⟩
theorem pgds_cons {es : List Expr} {g : TGD} {gs : TGDs} {ts us : List Nat} (h1 : PGD X io a ts g) (h2 : PGDs X io es us gs) (hs : (assignEach (a :: es) X.env).map (·.2) = assign a X.env :: (assignEach es X.env).map (·.2) := by rfl) : PGDs X io (a :: es) (ts ++ us) (dgCons g gs) :=
  ⟨fun c hc => PGs_imp (pgs_cons (h1.pg c hc) (h2.pg c hc) hs) fun v σ H Q ⟨e, G, d, P, S, dp, h, k⟩ => by
    cases d with
    | nil => exact h.elim
    | cons d ds =>
      cases dp with
      | cons dp dps => exact ⟨_, _, rfl, e, G, d, _, S, dp, h, fun e1 G1 σ1 H1 h1 ex1 S1 m1 => ⟨e1, G1, ds, _, S1, ex1.dpa dps, h1, fun e2 G2 σ2 H2 h2 ex2 S2 m2 => k e2 G2 σ2 H2 h2 (ex1.trans ex2) S2 (m1.trans m2)⟩⟩⟩
theorem pgd_tup {es : List Expr} {gs : TGDs} {k n : Nat} (hc : X.calm = true) {ts : List Nat} (h : PGDs X io es ts gs) (hn : (assignEach es X.env).length = n := by rfl) (hst : (assignEach es X.env).findIdx? (·.1) = none := by rfl) : PGD X io (.Tuple es k pos) ts (dgTup n gs) :=
  ⟨fun c hcc => PG_imp (pg_tup hc (h.pg c hcc) hn hst) fun v σ H Q ⟨e, G, d, P, S, dp, h, k⟩ => by
    cases d with
    | tuple ds =>
      cases dp with
      | tup hs ha => exact ⟨_, _, rfl, S.sub.t hs, by rw [dpa_len ha]; exact h.1, e, G, ds, _, S, ha, h.2, k⟩
    | _ => exact h.elim⟩
/-- target = e, whatever the target -/
def dAsgG (ir : TED) (g : TGD) : TSD := fun De e => ir e fun r e1 => bnd (leak r e1) fun p => g p.1 p.2 De.nx
theorem SR.leakr (S : SR K c e G σ H) {v : V} {r : R} {d : D} (h : RR K c e G σ H v r) (l : HD.leak r e = some (d, e')) : ∃ G', Ex G G' ∧ SR K c e' G' σ H ∧ Dp K G' v d := by
  obtain ⟨G1, ex1, S1, p1⟩ := S.fzp h
  have l' : HD.leak r.fz e = some (d, e') := by
    cases r with
    | fr xs => exact l
    | val d => exact l
    | loc j => exact l
  obtain ⟨G2, ex2, S2, d2⟩ := S1.leakp p1 l'
  exact ⟨G2, ex1.trans ex2, S2, d2⟩
theorem tofs_asgG {ts : List Nat} {g : TGD} {ir : TED} {E : Ends} (h : TofS K c (dAsgG ir g) E σ H) : tAsg (Tof K c ir) (TofG K c ts g) E σ H := by
  obtain ⟨e, G, De, S, h, l⟩ := h
  refine ⟨e, G, _, S, h, fun r e1 v G1 H1 h1 ex1 S1 r1 => ?_⟩
  obtain ⟨⟨d, e2⟩, he, h2⟩ := bnd_inv h1
  obtain ⟨G2, ex2, S2, dp⟩ := S1.leakr r1 he
  exact ⟨e2, G2, d, _, S2, dp, h2, fun e3 G3 σ3 H3 h3 ex3 S3 _ => l.nx e3 G3 σ3 H3 h3 ((ex1.trans ex2).trans ex3) S3⟩
theorem psd_asg {ts : List Nat} {g : TGD} (he : PD X io a ia) (hg : PGD X io x ts g) (hs : swapsWithSole [x] a pos.line X.env = pure false := by rfl) (hw : swappedStores [x] a X.env = pure none := by rfl) (h1 : (assignEach [x] X.env).map (·.2) = [assign x X.env] := by rfl) : PSD X io (.Assign [x] a pos) (dAsgG ia g) :=
  ⟨fun c hc => PS_imp (ps_asg (he.pe c hc) (hg.pg c hc) hs hw h1) fun _ _ _ => tofs_asgG⟩

/-! ### what is walked -/
structure WalkOk (K : PySem.W.Frag) (G : Hp) (J : It) (xs : List D) : Prop where
  go : ∀ i G1 H1, Ex G G1 → Ex G1 H1 → i < xs.length → J.go i H1
  stop : ∀ i G1 H1, Ex G G1 → Ex G1 H1 → xs.length ≤ i → J.stop i H1
  yld : ∀ i v G1 H1 H2, Ex G G1 → Ex G1 H1 → i < xs.length → J.yld i H1 v H2 → ∃ G2 d, Gr G1 H1 G2 H2 ∧ xs[i]? = some d ∧ Dp K G2 v d
theorem WalkOk.on {G G' : Hp} {J : It} {xs : List D} (w : WalkOk K G J xs) (ex : Ex G G') : WalkOk K G' J xs :=
  ⟨fun i G1 H1 a b d => w.go i G1 H1 (ex.trans a) b d, fun i G1 H1 a b d => w.stop i G1 H1 (ex.trans a) b d, fun i v G1 H1 H2 a b d f => w.yld i v G1 H1 H2 (ex.trans a) b d f⟩
abbrev TID := List Sl → (List D → List Sl → Prop) → Prop
def TofI (K : PySem.W.Frag) (c : C0) (it : TID) : TI := fun σ H Q => ∃ e G P, SR K c e G σ H ∧ it e P ∧ ∀ xs e' G' H' J, P xs e' → Ex G G' → SR K c e' G' σ H' → WalkOk K G' J xs → Q J H'
structure PID (X : Cx) (io : List Nat) (tg x : Expr) (it : TID) : Prop where
  pi : ∀ c : C0, c.ios = io → PI X tg x (TofI X.K c it)
theorem PI_imp {tg it : Expr} {t t' : TI} (h : PI X tg it t) (i : ∀ σ H Q, t' σ H Q → t σ H Q) : PI X tg it t' := ⟨fun pins s σ H Q I q => h.run pins s σ H Q I (i σ H Q q)⟩
/-- a list, a tuple, a text -/
def iAny (K : PySem.W.Frag) (tl : TE) : TI := fun σ H Q => tl σ H fun x H1 => (∃ a xs, x = .ref a ∧ SqL K H1 a xs ∧ (xs.length ≤ sizeLine → Q (Itl K a) H1)) ∨ (∃ a xs, x = .ref a ∧ SqT K H1 a xs ∧ (xs.length ≤ sizeLine → Q (Itt K a) H1)) ∨ ∃ z, x = .str z ∧ Q (Its z) H1
theorem pi_any {tg l : Expr} {tl : TE} (hl : PE X l tl) : PI X tg l (iAny X.K tl) := by
  refine ⟨fun pins s σ H Q I h => ?_⟩
  refine thn (hl.run pins s σ H _ I h) fun v s1 ⟨x, H1, I1, r1, q1⟩ => ?_
  rcases q1 with ⟨a, xs, rfl, hq, q⟩ | ⟨a, xs, rfl, hq, q⟩ | ⟨z, rfl, q⟩
  · cases r1
    obtain ⟨its, rv, p, hz⟩ := I1.list hq
    refine wpAny_pyIter_list p.isList ?_
    refine ⟨s1.heap.objs.size, [s1.heap.objs.size], _, _, H1, rfl, I1.kept (t' := s1.toks) fun b o e => Heap.get?_push_of_some _ e, turn_list a _, ⟨_, Heap.get?_push_size _ rfl, rfl, rfl⟩, fun b hb => ?_, q hz⟩
    have e : b = s1.heap.objs.size := by simpa using hb
    subst e
    exact I1.fpOk (Nat.le_refl _) (I1.hok.fresh (Nat.le_refl _))
  · cases r1
    obtain ⟨its, rv, p, hz⟩ := I1.tuple hq
    refine wpAny_pyIter_tuple (show s1.heap.IsTuple a its.toArray from p) ?_
    refine ⟨s1.heap.objs.size, [s1.heap.objs.size], _, _, H1, rfl, I1.kept (t' := s1.toks) fun b o e => Heap.get?_push_of_some _ e, turn_tuple a _, ⟨_, Heap.get?_push_size _ rfl, rfl, rfl⟩, fun b hb => ?_, q hz⟩
    have e : b = s1.heap.objs.size := by simpa using hb
    subst e
    exact I1.fpOk (Nat.le_refl _) (I1.hok.fresh (Nat.le_refl _))
  · obtain ⟨t, rfl⟩ := r1
    cases ha : z.cps.all (· < 128)
    · exact wpAny_pyIter_wide ha (pi_one (tk := s1.toks) I1 _ (turn_str _ z t "str_iterator" (.inr rfl)) ⟨_, Heap.get?_push_size _ rfl, rfl, rfl⟩ q)
    · exact wpAny_pyIter_ascii ha (pi_one (tk := s1.toks) I1 _ (turn_str _ z t "str_ascii_iterator" (.inl rfl)) ⟨_, Heap.get?_push_size _ rfl, rfl, rfl⟩ q)
end
end HD


set_option Elab.async false
set_option linter.all false
set_option maxRecDepth 100000
set_option maxHeartbeats 4000000
namespace HD
open PySem PySem.Spec PyProof.Rows L2

def itemsOf : D → Option (List D)
  | .list xs => some xs
  | .tuple xs => some xs
  | .str z => some (z.cps.toList.map fun c => .str ⟨#[c]⟩)
  | _ => none
def szOk : D → Prop
  | .list xs => xs.length ≤ sizeLine
  | .tuple xs => xs.length ≤ sizeLine
  | _ => True
def dIt (ir : TED) : TID := fun e Q => ir e fun r e1 => bnd (leak r e1) fun p => bnd (itemsOf p.1) fun xs => szOk p.1 → Q xs p.2
def rng (lo : Int) (n : Nat) : List D := (List.range n).map fun i => .int (lo + ((i : Nat) : Int))
@[simp] theorem rng_length (lo : Int) (n : Nat) : (rng lo n).length = n := by simp [rng]
theorem rng_get {lo : Int} {n i : Nat} (h : i < n) : (rng lo n)[i]? = some (.int (lo + (i : Int))) := by
  unfold rng
  rw [List.getElem?_map, List.getElem?_range h]
  rfl
def rg1 (ds : List D) (Q : List D → Prop) : Prop := match ds with
  | [.int j] => -(2 ^ 62) ≤ j ∧ j < 2 ^ 62 ∧ Q (rng 0 j.toNat)
  | _ => False
def rg2 (ds : List D) (Q : List D → Prop) : Prop := match ds with
  | [.int i, .int j] => (-(2 ^ 62) ≤ i ∧ i < 2 ^ 62 ∧ -(2 ^ 62) ≤ j ∧ j < 2 ^ 62) ∧ Q (rng i (j - i).toNat)
  | _ => False
def dRg1 (ta : TAD) : TID := fun e Q => ta e fun rs e1 => bnd (peeks e1 rs) fun ds => rg1 ds fun xs => Q xs e1
def dRg2 (ta : TAD) : TID := fun e Q => ta e fun rs e1 => bnd (peeks e1 rs) fun ds => rg2 ds fun xs => Q xs e1
section
variable {K : PySem.W.Frag} {c : C0} {io : List Nat} {e e' : List Sl} {G H G' H' : Hp} {σ : L2.St} {X : Cx}
theorem walk_l {a : Addr} {vs : List V} {ds : List D} (h : SqL K G a vs) (hd : DpAll K G vs ds) : WalkOk K G (Itl K a) ds := by
  refine ⟨fun i G1 H1 ex s hi => ?_, fun i G1 H1 ex s hi => ⟨vs, s.l (ex.l h), by rw [dpa_len hd]; exact hi⟩, fun i v G1 H1 H2 ex s hi y => ?_⟩
  · obtain ⟨v, q, _⟩ := dpa_get hd (List.getElem?_eq_getElem hi)
    exact ⟨vs, v, s.l (ex.l h), q⟩
  · obtain ⟨e, y⟩ := y
    subst e
    obtain ⟨d, q, r⟩ := dpa_get' (ex.dpa hd) (y vs (s.l (ex.l h)))
    exact ⟨G1, d, Gr.refl s, q, r⟩
theorem walk_t {a : Addr} {vs : List V} {ds : List D} (h : SqT K G a vs) (hd : DpAll K G vs ds) : WalkOk K G (Itt K a) ds := by
  refine ⟨fun i G1 H1 ex s hi => ?_, fun i G1 H1 ex s hi => ⟨vs, s.t (ex.t h), by rw [dpa_len hd]; exact hi⟩, fun i v G1 H1 H2 ex s hi y => ?_⟩
  · obtain ⟨v, q, _⟩ := dpa_get hd (List.getElem?_eq_getElem hi)
    exact ⟨vs, v, s.t (ex.t h), q⟩
  · obtain ⟨e, y⟩ := y
    subst e
    obtain ⟨d, q, r⟩ := dpa_get' (ex.dpa hd) (y vs (s.t (ex.t h)))
    exact ⟨G1, d, Gr.refl s, q, r⟩
theorem walk_s {z : Str} : WalkOk K G (Its z) (z.cps.toList.map fun c => .str ⟨#[c]⟩) := by
  have hl : (z.cps.toList.map fun c => (PyData.str ⟨#[c]⟩)).length = z.cps.size := by simp
  refine ⟨fun i G1 H1 ex s hi => by rw [hl] at hi; exact hi, fun i G1 H1 ex s hi => by rw [hl] at hi; exact hi, fun i v G1 H1 H2 ex s hi y => ?_⟩
  obtain ⟨e, ch, q, rfl⟩ := y
  subst e
  exact ⟨G1, .str ⟨#[ch]⟩, Gr.refl s, by rw [List.getElem?_map, Array.getElem?_toList, q]; rfl, .str _⟩
theorem walk_r {lo : Int} {n : Nat} : WalkOk K G (Itr lo n) (rng lo n) := by
  refine ⟨fun i G1 H1 ex s hi => by rw [rng_length] at hi; exact hi, fun i G1 H1 ex s hi => by rw [rng_length] at hi; exact hi, fun i v G1 H1 H2 ex s hi y => ?_⟩
  obtain ⟨e, y⟩ := y
  subst e y
  exact ⟨G1, _, Gr.refl s, rng_get (by rw [rng_length] at hi; exact hi), .int _⟩
variable {tg a b : Expr} {ia : TED} {ta : TAD} {pos p : Pos}
theorem tofi_it {Q : It → Hp → Prop} (h : TofI K c (dIt ia) σ H Q) : iAny K (Tof K c ia) σ H Q := by
  obtain ⟨e, G, P, S, h, k⟩ := h
  refine ⟨e, G, _, S, h, fun r e1 v G1 H1 h1 ex1 S1 r1 => ?_⟩
  obtain ⟨⟨d, e2⟩, he, h2⟩ := bnd_inv h1
  obtain ⟨xs, hx, h3⟩ := bnd_inv h2
  obtain ⟨G2, ex2, S2, dp⟩ := S1.leakr r1 he
  cases d with
  | list ds =>
    cases hx
    cases dp with
    | lst hs ha => exact .inl ⟨_, _, rfl, S2.sub.l hs, fun hz => k _ e2 G2 H1 _ (h3 (show xs.length ≤ sizeLine by rw [← dpa_len ha]; exact hz)) (ex1.trans ex2) S2 (walk_l hs ha)⟩
  | tuple ds =>
    cases hx
    cases dp with
    | tup hs ha => exact .inr (.inl ⟨_, _, rfl, S2.sub.t hs, fun hz => k _ e2 G2 H1 _ (h3 (show xs.length ≤ sizeLine by rw [← dpa_len ha]; exact hz)) (ex1.trans ex2) S2 (walk_t hs ha)⟩)
  | str z =>
    cases hx
    cases dp
    exact .inr (.inr ⟨z, rfl, k _ e2 G2 H1 _ (h3 trivial) (ex1.trans ex2) S2 walk_s⟩)
  | _ => cases hx
theorem pid_it (h : PD X io a ia) : PID X io tg a (dIt ia) := ⟨fun c hc => PI_imp (pi_any (h.pe c hc)) fun _ _ _ => tofi_it⟩
theorem pk1 {v : V} {d : D} {vs : List V} (h : PKs K G H (v :: vs) [d]) : PK K G H v d ∧ vs = [] := by
  cases h with
  | cons a b =>
    cases b
    exact ⟨a, rfl⟩
theorem tofi_r1 {Q : It → Hp → Prop} (h : TofI K c (dRg1 ta) σ H Q) : iRng1 (TofA K c ta) σ H Q := by
  obtain ⟨e, G, P, S, h, k⟩ := h
  refine ⟨e, G, _, S, h, fun rs e1 vs G1 H1 h1 ex1 S1 r1 => ?_⟩
  obtain ⟨ds, hd, h2⟩ := bnd_inv h1
  have pk := S1.peeksp r1 hd
  match ds, h2 with
  | [.int j], ⟨j1, j2, h3⟩ =>
    cases pk with
    | cons p1 p2 =>
      cases p2
      exact ⟨j, by rw [p1.int], j1, j2, k _ e1 G1 H1 _ h3 ex1 S1 walk_r⟩
theorem tofi_r2 {Q : It → Hp → Prop} (h : TofI K c (dRg2 ta) σ H Q) : iRng2 (TofA K c ta) σ H Q := by
  obtain ⟨e, G, P, S, h, k⟩ := h
  refine ⟨e, G, _, S, h, fun rs e1 vs G1 H1 h1 ex1 S1 r1 => ?_⟩
  obtain ⟨ds, hd, h2⟩ := bnd_inv h1
  have pk := S1.peeksp r1 hd
  match ds, h2 with
  | [.int i, .int j], ⟨j1, h3⟩ =>
    cases pk with
    | cons p1 p2 =>
      cases p2 with
      | cons p2 p3 =>
        cases p3
        exact ⟨i, j, by rw [p1.int, p2.int], j1, k _ e1 G1 H1 _ h3 ex1 S1 walk_r⟩
theorem pid_range1 (hg : Gl X "range") (hm : X.mg "range" = none) (h : PAD X io [a] ta) (hs : starEach [a] X.env = [(false, eval a X.env)] := by rfl) : PID X io tg (.Call (.Name "range" p) [a] [] pos) (dRg1 ta) :=
  ⟨fun c hc => PI_imp (pi_range1 hg hm (h.pa c hc) hs) fun _ _ _ => tofi_r1⟩
theorem pid_range2 (hg : Gl X "range") (hm : X.mg "range" = none) (h : PAD X io [a, b] ta) (hs : starEach [a, b] X.env = [(false, eval a X.env), (false, eval b X.env)] := by rfl) (hs2 : starEach [b] X.env = [(false, eval b X.env)] := by rfl) : PID X io tg (.Call (.Name "range" p) [a, b] [] pos) (dRg2 ta) :=
  ⟨fun c hc => PI_imp (pi_range2 hg hm (h.pa c hc) hs hs2) fun _ _ _ => tofi_r2⟩

/-! ### for, while -/
def loopD (g : TGD) (body : TSD) (De : DE) : List D → List Sl → Prop
  | [], e => De.nx e
  | x :: xs, e => g x e fun e1 => body { De with nx := loopD g body De xs, ct := loopD g body De xs, bk := De.nx } e1
structure HF (g : TGD) (body : TSD) (De : DE) (xs : List D) (e : List Sl) : Prop where
  go : loopD g body De xs e
def dFor (g : TGD) (it : TID) (body : TSD) : TSD := fun De e => it e fun xs e1 => HF g body De xs e1
def whileD (t : TTD) (body : TSD) (De : DE) : Nat → List Sl → Prop
  | 0, _ => False
  | n + 1, e => t e fun k e1 => br k (body { De with nx := whileD t body De n, ct := whileD t body De n, bk := De.nx } e1) (De.nx e1)
def dWhile (t : TTD) (body : TSD) : TSD := fun De e => ∃ n, whileD t body De n e
theorem tofs_for {ts : List Nat} {g : TGD} {it : TID} {body : TSD} {E : Ends} (h : TofS K c (dFor g it body) E σ H) : tFor (TofI K c it) (TofG K c ts g) (TofS K c body) E σ H := by
  obtain ⟨e, G, De, S, h, l⟩ := h
  refine ⟨e, G, _, S, h, fun xs e1 G1 H1 J h1 ex1 S1 w => ?_⟩
  refine ⟨fun i m σ' H' => ∃ e' G', SR K c e' G' σ' H' ∧ Ex G1 G' ∧ loopD g body De (xs.drop i) e' ∧ m = xs.length - i ∧ i ≤ xs.length, ⟨xs.length, e1, G1, S1, Ex.refl, h1.go, by simp, Nat.zero_le _⟩, ?_⟩
  rintro i m σ' H' ⟨e', G', S', ex', h', rfl, hi⟩
  by_cases hlt : i < xs.length
  · refine .inr ⟨w.go i G' H' ex' S'.sub hlt, fun σ2 H2 => ∃ e2 G2, SR K c e2 G2 σ2 H2 ∧ Ex G1 G2 ∧ loopD g body De (xs.drop (i + 1)) e2, fun σ2 H2 ⟨e2, G2, S2, ex2, h2⟩ => ⟨xs.length - (i + 1), by omega, e2, G2, S2, ex2, h2, rfl, hlt⟩, fun x H2 y => ?_⟩
    obtain ⟨G2, d, gr, hd, dp⟩ := w.yld i x G' H' H2 ex' S'.sub hlt y
    rw [List.drop_eq_getElem_cons hlt] at h'
    have hdx : xs[i] = d := Option.some.inj ((List.getElem?_eq_getElem hlt).symm.trans hd)
    rw [hdx] at h'
    refine ⟨e', G2, d, _, S'.grow gr, dp, h', fun e3 G3 σ3 H3 h3 ex3 S3 _ => ?_⟩
    have exA : Ex G1 G3 := (ex'.trans gr.g).trans ex3
    refine ⟨e3, G3, _, S3, h3, ⟨fun e4 G4 σ4 H4 h4 ex4 S4 => ⟨e4, G4, S4, exA.trans ex4, h4⟩, fun e4 G4 σ4 H4 h4 ex4 S4 => l.nx e4 G4 σ4 H4 h4 (ex1.trans (exA.trans ex4)) S4, fun e4 G4 σ4 H4 h4 ex4 S4 => ⟨e4, G4, S4, exA.trans ex4, h4⟩, fun r e4 v G4 σ4 H4 h4 ex4 S4 r4 => l.rt r e4 v G4 σ4 H4 h4 (ex1.trans (exA.trans ex4)) S4 r4⟩⟩
  · have e2 : i = xs.length := by omega
    refine .inl ⟨w.stop i G' H' ex' S'.sub (by omega), ?_⟩
    rw [List.drop_eq_nil_of_le (by omega)] at h'
    exact l.nx e' G' σ' H' h' (ex1.trans ex') S'
theorem tofs_while {t : TTD} {body : TSD} {E : Ends} (h : TofS K c (dWhile t body) E σ H) : tWhile (TofT K c t) (TofS K c body) E σ H := by
  obtain ⟨e, G, De, S, ⟨n, h⟩, l⟩ := h
  refine ⟨fun m σ' H' => ∃ e' G', SR K c e' G' σ' H' ∧ Ex G G' ∧ whileD t body De m e', ⟨n, e, G, S, Ex.refl, h⟩, ?_⟩
  rintro m σ' H' ⟨e', G', S', ex', h'⟩
  cases m with
  | zero => exact h'.elim
  | succ m =>
    refine ⟨e', G', _, S', h', fun k e1 G1 H1 h1 ex1 S1 => ?_⟩
    cases k with
    | true =>
      have h1 := h1.1 rfl
      rw [if_pos rfl]
      refine ⟨fun σ2 H2 => ∃ e2 G2, SR K c e2 G2 σ2 H2 ∧ Ex G G2 ∧ whileD t body De m e2, fun σ2 H2 q => ⟨m, Nat.lt_succ_self m, q⟩, e1, G1, _, S1, h1, ?_⟩
      have exA : Ex G G1 := ex'.trans ex1
      exact ⟨fun e4 G4 σ4 H4 h4 ex4 S4 => ⟨e4, G4, S4, exA.trans ex4, h4⟩, fun e4 G4 σ4 H4 h4 ex4 S4 => l.nx e4 G4 σ4 H4 h4 (exA.trans ex4) S4, fun e4 G4 σ4 H4 h4 ex4 S4 => ⟨e4, G4, S4, exA.trans ex4, h4⟩, fun r e4 v G4 σ4 H4 h4 ex4 S4 r4 => l.rt r e4 v G4 σ4 H4 h4 (exA.trans ex4) S4 r4⟩
    | false =>
      have h1 := h1.2 rfl
      rw [if_neg Bool.false_ne_true]
      exact l.nx e1 G1 σ' H1 h1 (ex'.trans ex1) S1
theorem psd_for {it x : Expr} {ts : List Nat} {g : TGD} {ir : TID} {body : List Stmt} {tb : TSD} (hp : PassesOwn (model X.prog X.w) X.A X.env X.xe) (hcal : X.calm = true) (hi : PID X io x it ir) (hg : PGD X io x ts g) (hb : PSsD X io body tb) (hs : ∀ y, foldedSetIterable it X.env y = pure y := by intro _; rfl) :
    PSD X io (.For x it body [] pos) (dFor g ir tb) := ⟨fun c hc => PS_imp (ps_for hp hcal (hi.pi c hc) (hg.pg c hc) (hb.ps c hc) hs) fun _ _ _ => tofs_for⟩
theorem psd_while {x : Expr} {t : TTD} {body : List Stmt} {tb : TSD} (hp : PassesOwn (model X.prog X.w) X.A X.env X.xe) (ht : PTD X io x t) (hb : PSsD X io body tb) : PSD X io (.While x body [] pos) (dWhile t tb) :=
  ⟨fun c hc => PS_imp (ps_while hp (ht.pt c hc) (hb.ps c hc)) fun _ _ _ => tofs_while⟩

/-! ### list comprehensions -/
def wipeE (e : List Sl) : List Nat → List Sl
  | [] => e
  | v :: vs => (wipeE e vs).set v .un
def backE (e0 e : List Sl) : List Nat → List Sl
  | [] => e
  | v :: vs => (backE e0 e vs).set v (e0.getD v .un)
def notOl (e : List Sl) : List Nat → Prop
  | [] => True
  | v :: vs => (match e[v]? with
    | some (.ol _) => False
    | _ => True) ∧ notOl e vs
abbrev TTs := TTD
def loopLc (g : TGD) (t : TTD) (ir : TED) (vs : List Nat) (Q : List D → List Sl → Prop) : List D → List D → List Sl → Prop
  | [], acc, e => Q acc e
  | x :: xs, acc, e => g x e fun e1 => t e1 fun k e2 => br k (ir e2 fun r e3 => bnd (leak r e3) fun p => loopLc g t ir vs Q xs (acc ++ [p.1]) (wipeE p.2 vs)) (loopLc g t ir vs Q xs acc (wipeE e2 vs))
structure HC (g : TGD) (t : TTD) (ir : TED) (vs : List Nat) (Q : List D → List Sl → Prop) (xs acc : List D) (e : List Sl) : Prop where
  go : loopLc g t ir vs Q xs acc e
def dLc (g : TGD) (it : TID) (t : TTD) (ir : TED) (vs : List Nat) : TED := fun e Q => it e fun xs e1 => xs.length ≤ sizeLine ∧ notOl e1 vs ∧ HC g t ir vs (fun acc e2 => Q (.fr acc) (backE e1 e2 vs)) xs [] (wipeE e1 vs)
def dYes : TTD := fun e Q => Q true e
def C0.pinned (c : C0) (p : Addr) (o : HO) : C0 := { c with pins := (p, o) :: c.pins }
theorem SR.unpin {p : Addr} {o : HO} (S : SR K (c.pinned p o) e G σ H) : SR K c e G σ H :=
  ⟨S.sub, S.keep, S.gk, S.dom, S.ioh, S.len, S.sh, S.ol, S.inj, S.io, fun q hq => S.pin q (List.mem_cons_of_mem _ hq), (List.nodup_cons.mp S.pnd).2⟩
theorem SR.dopin {p : Addr} {o : HO} (S : SR K c e G σ H) (hp : H p = none) : SR K (c.pinned p o) e G σ (upd H p o) := by
  have S' := S.grow (Gr.own (o := o) S.sub hp)
  refine ⟨S'.sub, S'.keep, S'.gk, S'.dom, S'.ioh, S'.len, S'.sh, S'.ol, S'.inj, S'.io, fun q hq => ?_, ?_⟩
  · rcases List.mem_cons.mp hq with rfl | hq
    · refine ⟨upd_same, S.sub.back hp, ?_, fun i xs hi hs => ?_⟩
      · cases h0 : c.H0 p with
        | none => exact h0
        | some u =>
          obtain ⟨u', hu⟩ := S.dom p u h0
          rw [hp] at hu
          cases hu
      · obtain ⟨b, us, q', r', _⟩ := S.ol i xs hi
        rw [hs] at q'
        cases q'
        rw [hp] at r'
        cases r'
    · exact S'.pin q hq
  · refine List.nodup_cons.mpr ⟨fun hm => ?_, S.pnd⟩
    obtain ⟨q, hq, e⟩ := List.mem_map.mp hm
    have z := (S.pin q hq).1
    rw [e] at z
    rw [show H p = none from hp] at z
    cases z
theorem SR.repin {p : Addr} {o o' : HO} (S : SR K (c.pinned p o) e G σ H) : SR K (c.pinned p o') e G σ (upd H p o') := by
  obtain ⟨p1, p2, p3, p4⟩ := S.pin (p, o) List.mem_cons_self
  have hn : ∀ b u, c.H0 b = some u → b ≠ p := fun b u h z => by
    rw [z] at h
    rw [show c.H0 p = none from p3] at h
    cases h
  have hG : ∀ b u, G b = some u → b ≠ p := fun b u h z => by
    rw [z] at h
    rw [show G p = none from p2] at h
    cases h
  refine ⟨fun b u h => by rw [upd_ne (hG b u h)]; exact S.sub b u h, fun b u h n => by rw [upd_ne (hn b u h)]; exact S.keep b u h n, S.gk, fun b u h => by rw [upd_ne (hn b u h)]; exact S.dom b u h, S.ioh, S.len, S.sh, fun i xs hi => ?_, S.inj, S.io, fun q hq => ?_, S.pnd⟩
  · obtain ⟨a, vs, q, r, n, d, z⟩ := S.ol i xs hi
    have ha : a ≠ p := fun z => p4 i xs hi (by rw [q, z])
    exact ⟨a, vs, q, by rw [upd_ne ha]; exact r, n, d, z⟩
  · rcases List.mem_cons.mp hq with rfl | hq
    · exact ⟨upd_same, p2, p3, p4⟩
    · obtain ⟨q1, q2, q3, q4⟩ := S.pin q (List.mem_cons_of_mem _ hq)
      have hqp : q.1 ≠ p := fun z => (List.nodup_cons.mp S.pnd).1 (List.mem_map.mpr ⟨q, hq, z⟩)
      exact ⟨by rw [upd_ne hqp]; exact q1, q2, q3, q4⟩
/-- a slot forgotten -/
theorem SR.setUn (S : SR K c e G σ H) {i : Nat} {o : Option V} (n : i ∉ c.ios) : SR K c (e.set i .un) G (σ.set i o) H := by
  have key : ∀ (j : Nat) (s : Sl), (e.set i .un)[j]? = some s → s ≠ .un → j ≠ i ∧ e[j]? = some s := fun j s hj hs => by
    by_cases z : j = i
    · subst z
      have hl : j < e.length := by
        have := (List.getElem?_eq_some_iff.mp hj).1
        rwa [List.length_set] at this
      rw [List.getElem?_set_self hl] at hj
      exact (hs (Option.some.inj hj).symm).elim
    · rw [List.getElem?_set_ne (Ne.symm z)] at hj
      exact ⟨z, hj⟩
  refine ⟨S.sub, S.keep, S.gk, S.dom, S.ioh, by rw [List.length_set, List.length_set]; exact S.len, fun j d hj => ?_, fun j xs hj => ?_, fun j k xs ys a hj hk sj sk => ?_, fun j hj => ?_, fun p hp => ?_, S.pnd⟩
  · obtain ⟨z, hj⟩ := key j _ hj (by intro h; cases h)
    rw [List.getElem?_set_ne (Ne.symm z)]
    exact S.sh j d hj
  · obtain ⟨z, hj⟩ := key j _ hj (by intro h; cases h)
    rw [List.getElem?_set_ne (Ne.symm z)]
    exact S.ol j xs hj
  · obtain ⟨z, hj⟩ := key j _ hj (by intro h; cases h)
    obtain ⟨y, hk⟩ := key k _ hk (by intro h; cases h)
    rw [List.getElem?_set_ne (Ne.symm z)] at sj
    rw [List.getElem?_set_ne (Ne.symm y)] at sk
    exact S.inj j k xs ys a hj hk sj sk
  · rw [List.getElem?_set_ne (fun z => n (by rw [z]; exact hj))]
    exact S.io j hj
  · obtain ⟨p1, p2, p3, p4⟩ := S.pin p hp
    refine ⟨p1, p2, p3, fun j xs hj => ?_⟩
    obtain ⟨z, hj⟩ := key j _ hj (by intro h; cases h)
    rw [List.getElem?_set_ne (Ne.symm z)]
    exact p4 j xs hj
theorem SR.wipe : ∀ {vs : List Nat}, SR K c e G σ H → (∀ i ∈ vs, i ∉ c.ios) → SR K c (wipeE e vs) G (L2.wipe σ vs) H
  | [], S, _ => S
  | v :: vs, S, n => (SR.wipe (vs := vs) S fun i hi => n i (List.mem_cons_of_mem _ hi)).setUn (n v List.mem_cons_self)
theorem wipeE_out {i : Nat} : ∀ {vs : List Nat}, i ∉ vs → (wipeE e vs)[i]? = e[i]?
  | [], _ => rfl
  | v :: vs, h => by
    have h1 : v ≠ i := fun z => h (by rw [z]; exact List.mem_cons_self)
    have h2 : i ∉ vs := fun m => h (List.mem_cons_of_mem _ m)
    unfold wipeE
    rw [List.getElem?_set_ne h1]
    exact wipeE_out h2
theorem backE_len {e0 : List Sl} : ∀ {vs : List Nat}, (backE e0 e vs).length = e.length
  | [] => rfl
  | v :: vs => by unfold backE; rw [List.length_set]; exact backE_len
theorem backE_get {e0 : List Sl} (hl : e0.length = e.length) {s : Sl} {i : Nat} : ∀ {vs : List Nat}, (backE e0 e vs)[i]? = some s → (i ∈ vs ∧ e0[i]? = some s) ∨ (i ∉ vs ∧ e[i]? = some s)
  | [], h => .inr ⟨by simp, h⟩
  | v :: vs, h => by
    unfold backE at h
    by_cases z : i = v
    · subst z
      have hi : i < (backE e0 e vs).length := by
        have := (List.getElem?_eq_some_iff.mp h).1
        rwa [List.length_set] at this
      rw [List.getElem?_set_self hi] at h
      rw [backE_len, ← hl] at hi
      refine .inl ⟨List.mem_cons_self, ?_⟩
      rw [← h, List.getD_eq_getElem?_getD, List.getElem?_eq_getElem hi]
      rfl
    · rw [List.getElem?_set_ne (Ne.symm z)] at h
      rcases backE_get hl h with ⟨a, b⟩ | ⟨a, b⟩
      · exact .inl ⟨List.mem_cons_of_mem _ a, b⟩
      · exact .inr ⟨fun m => by rcases List.mem_cons.mp m with y | y; exact z y; exact a y, b⟩
theorem notOl_of {i : Nat} : ∀ {vs : List Nat}, notOl e vs → i ∈ vs → ∀ xs, e[i]? ≠ some (.ol xs)
  | [], _, h, _, _ => by simp at h
  | v :: vs, ⟨h1, h2⟩, h, xs, e => by
    rcases List.mem_cons.mp h with z | z
    · subst z
      rw [e] at h1
      exact h1
    · exact notOl_of h2 z xs e
/-- behind the block: its own slots as they were ahead -/
theorem SR.backed {e0 : List Sl} {G0 H0 : Hp} {vs : List Nat} (S0 : SR K c e0 G0 σ H0) (no : notOl e0 vs) (ex : Ex G0 G) (S : SR K c e G (L2.wipe σ vs) H) : SR K c (backE e0 e vs) G σ H := by
  have hl : e0.length = e.length := by rw [S0.len, S.len, wipe_length]
  have kol : ∀ (i : Nat) xs, (backE e0 e vs)[i]? = some (.ol xs) → i ∉ vs ∧ e[i]? = some (.ol xs) := fun i xs hi => by
    rcases backE_get hl hi with ⟨a, b⟩ | ⟨a, b⟩
    · exact (notOl_of no a xs b).elim
    · exact ⟨a, b⟩
  refine ⟨S.sub, S.keep, S.gk, S.dom, S.ioh, by rw [backE_len, ← hl]; exact S0.len, fun i d hi => ?_, fun i xs hi => ?_, fun i k xs ys b hi hk si sk => ?_, S0.io, fun p hp => ?_, S.pnd⟩
  · rcases backE_get hl hi with ⟨a, b⟩ | ⟨a, b⟩
    · obtain ⟨v, q, r⟩ := S0.sh i d b
      exact ⟨v, q, ex.dp r⟩
    · obtain ⟨v, q, r⟩ := S.sh i d b
      rw [wipe_out a] at q
      exact ⟨v, q, r⟩
  · obtain ⟨a, b⟩ := kol i xs hi
    obtain ⟨p, us, q, r⟩ := S.ol i xs b
    rw [wipe_out a] at q
    exact ⟨p, us, q, r⟩
  · obtain ⟨a1, b1⟩ := kol i xs hi
    obtain ⟨a2, b2⟩ := kol k ys hk
    exact S.inj i k xs ys b b1 b2 (by rw [wipe_out a1]; exact si) (by rw [wipe_out a2]; exact sk)
  · obtain ⟨p1, p2, p3, p4⟩ := S.pin p hp
    refine ⟨p1, p2, p3, fun i xs hi si => ?_⟩
    obtain ⟨a, b⟩ := kol i xs hi
    exact p4 i xs b (by rw [wipe_out a]; exact si)
/-- the block's readings, whatever is pinned -/
def XofE (K : PySem.W.Frag) (io : List Nat) (ir : TED) : TE := fun σ H Q => ∃ c : C0, c.ios = io ∧ Tof K c ir σ H Q
def XofT (K : PySem.W.Frag) (io : List Nat) (ir : TTD) : TT := fun σ H Q => ∃ c : C0, c.ios = io ∧ TofT K c ir σ H Q
def XofG (K : PySem.W.Frag) (io : List Nat) (ts : List Nat) (g : TGD) : TG := fun v σ H Q => ∃ c : C0, c.ios = io ∧ TofG K c ts g v σ H Q
theorem PD.x {a : Expr} {ir : TED} (h : PD X io a ir) : PE X a (XofE X.K io ir) := ⟨fun pins s σ H Q I ⟨c, hc, q⟩ => (h.pe c hc).run pins s σ H Q I q⟩
theorem PTD.x {a : Expr} {ir : TTD} (h : PTD X io a ir) : PT X a (XofT X.K io ir) := ⟨fun pins s σ H Q I ⟨c, hc, q⟩ => (h.pt c hc).run pins s σ H Q I q⟩
theorem PGD.x {a : Expr} {ts : List Nat} {g : TGD} (h : PGD X io a ts g) : PG X a (XofG X.K io ts g) := ⟨fun pins s σ H v u Q I r ⟨c, hc, q⟩ => (h.pg c hc).run pins s σ H v u Q I r q⟩
structure PTsD (X : Cx) (io : List Nat) (x : List Expr) (t : TTD) : Prop where
  pt : PTs X x (XofT X.K io t)
theorem ptsd_nil : PTsD X io [] dYes := ⟨⟨fun pins s σ H Q I ⟨c, hc, q⟩ => by
  obtain ⟨e, G, P, S, h, k⟩ := q
  exact pts_nil.run pins s σ H Q I (k true e G H h Ex.refl S)⟩⟩
theorem ptsd_one {a : Expr} {t : TTD} (h : PTD X io a t) : PTsD X io [a] t := ⟨pts_one h.x⟩
theorem wipe_in {τ : L2.St} {j : Nat} : ∀ {vs : List Nat}, j ∈ vs → (L2.wipe τ vs)[j]? = if j < τ.length then some none else none
  | [], h => by simp at h
  | v :: vs, h => by
    unfold L2.wipe
    by_cases z : v = j
    · subst z
      rw [List.getElem?_set, if_pos rfl, wipe_length]
    · rw [List.getElem?_set_ne z]
      rcases List.mem_cons.mp h with y | y
      · exact (z y.symm).elim
      · exact wipe_in y
theorem wipe_sm {vs ts : List Nat} (hs : ∀ i ∈ ts, i ∈ vs) {σ σ2 : L2.St} (m : Sm ts (L2.wipe σ vs) σ2) : L2.wipe σ2 vs = L2.wipe σ vs := by
  apply List.ext_getElem?
  intro j
  by_cases hj : j ∈ vs
  · rw [wipe_in hj, wipe_in hj, m.1, wipe_length]
  · rw [wipe_out hj, m.2 j (fun h => hj (hs j h))]
theorem tof_lc {ts : List Nat} {g : TGD} {it : TID} {t : TTD} {ir : TED} {vs : List Nat} (nv : ∀ i ∈ vs, i ∉ c.ios) (hs : ∀ i ∈ ts, i ∈ vs) {Q : VK} (h : Tof K c (dLc g it t ir vs) σ H Q) : tLc (TofI K c it) (XofG K c.ios ts g) (XofT K c.ios t) (XofE K c.ios ir) vs σ H Q := by
  obtain ⟨e, G, P, S, h, k⟩ := h
  refine ⟨e, G, _, S, h, fun xs e1 G1 H1 J h1 ex1 S1 w => ?_⟩
  obtain ⟨hz, no, h2⟩ := h1
  intro D0 hD
  refine ⟨fun i m H' => ∃ e' G' av ad, SR K (c.pinned D0 (.lst av)) e' G' (L2.wipe σ vs) H' ∧ Ex G1 G' ∧ DpAll K G' av ad ∧ av.length ≤ i ∧ loopLc g t ir vs (fun acc e2 => P (.fr acc) (backE e1 e2 vs)) (xs.drop i) ad e' ∧ m = xs.length - i ∧ i ≤ xs.length,
    ⟨xs.length, wipeE e1 vs, G1, [], [], (S1.dopin hD).wipe nv, Ex.refl, .nil, Nat.zero_le _, h2.go, by simp, Nat.zero_le _⟩, ?_⟩
  rintro i m H' ⟨e', G', av, ad, S', ex', da, hal, h', rfl, hi⟩
  by_cases hlt : i < xs.length
  · refine .inr ⟨w.go i G' H' ex' S'.sub hlt, fun H2 => ∃ e2 G2 av2 ad2, SR K (c.pinned D0 (.lst av2)) e2 G2 (L2.wipe σ vs) H2 ∧ Ex G1 G2 ∧ DpAll K G2 av2 ad2 ∧ av2.length ≤ i + 1 ∧ loopLc g t ir vs (fun acc e2 => P (.fr acc) (backE e1 e2 vs)) (xs.drop (i + 1)) ad2 e2,
      fun H2 ⟨e2, G2, av2, ad2, a1, a2, a3, a4, a5⟩ => ⟨xs.length - (i + 1), by omega, e2, G2, av2, ad2, a1, a2, a3, a4, a5, rfl, hlt⟩, fun x H2 y => ?_⟩
    obtain ⟨G2, d, gr, hd, dp⟩ := w.yld i x G' H' H2 ex' S'.sub hlt y
    rw [List.drop_eq_getElem_cons hlt] at h'
    have hdx : xs[i] = d := Option.some.inj ((List.getElem?_eq_getElem hlt).symm.trans hd)
    rw [hdx] at h'
    refine ⟨c.pinned D0 (.lst av), rfl, e', G2, d, _, S'.grow gr, dp, h', fun e3 G3 σ3 H3 h3 ex3 S3 m3 => ?_⟩
    have hw := wipe_sm hs m3
    refine ⟨hw, c.pinned D0 (.lst av), rfl, e3, G3, _, S3, h3, fun b e4 G4 H4 h4 ex4 S4 => ?_⟩
    have exA : Ex G' G4 := (gr.g.trans ex3).trans ex4
    cases b with
    | false =>
      have h4 := h4.2 rfl
      simp only [Bool.false_eq_true, if_false]
      have S5 := S4.wipe (vs := vs) nv
      rw [hw] at S5
      exact ⟨_, G4, av, ad, S5, ex'.trans exA, exA.dpa da, by omega, h4⟩
    | true =>
      have h4 := h4.1 rfl
      simp only [if_true]
      refine ⟨c.pinned D0 (.lst av), rfl, e4, G4, _, S4, h4, fun r e5 y5 G5 H5 h5 ex5 S5 r5 => ?_⟩
      obtain ⟨⟨d5, e6⟩, hl, h6⟩ := bnd_inv h5
      obtain ⟨G6, ex6, S6, dp6⟩ := S5.leakr r5 hl
      have S7 := ((S6.repin (o' := .lst (av ++ [y5]))).wipe (vs := vs) nv)
      rw [hw] at S7
      have exB : Ex G' G6 := (exA.trans ex5).trans ex6
      exact ⟨av, (S6.pin (D0, .lst av) List.mem_cons_self).1, by omega, _, G6, _, ad ++ [d5], S7, ex'.trans exB, dpa_app (exB.dpa da) (dpa_one dp6), by rw [List.length_append]; exact Nat.succ_le_succ hal, h6⟩
  · have e2 : i = xs.length := by omega
    refine .inl ⟨w.stop i G' H' ex' S'.sub (by omega), ?_⟩
    rw [List.drop_eq_nil_of_le (by omega)] at h'
    obtain ⟨p1, p2, p3, p4⟩ := S'.pin (D0, .lst av) List.mem_cons_self
    have Sb := S1.backed no ex' S'.unpin
    refine k _ _ (.ref D0) G' H' h' (ex1.trans ex') Sb ⟨D0, av, rfl, p1, p2, da, p3, fun q hq z => ?_, fun j ys hj sj => ?_⟩
    · exact (List.nodup_cons.mp S'.pnd).1 (List.mem_map.mpr ⟨q, hq, z⟩)
    · have hl : e1.length = e'.length := by rw [S1.len, S'.len, wipe_length]
      rcases backE_get hl hj with ⟨a, b⟩ | ⟨a, b⟩
      · exact notOl_of no a ys b
      · exact p4 j ys b (by rw [wipe_out a]; exact sj)
end
end HD


set_option Elab.async false
set_option linter.all false
set_option maxRecDepth 100000
set_option maxHeartbeats 4000000
namespace HD
open PySem PySem.Spec PyProof.Rows L2
section
variable {K : PySem.W.Frag} {c : C0} {io : List Nat} {e e' : List Sl} {G H G' H' : Hp} {σ : L2.St} {X : Cx}
theorem pd_lc {elt tg iter : Expr} {ifs : List Expr} {scope : Scope} {own : List (Str × Nat)} {pos : Pos} {ts : List Nat} {g : TGD} {it : TID} {t : TTD} {ir : TED} (hcal : X.calm = true) (hN : X.N.Nodup) (hi : PID X io tg iter it) (ok : BlkOk X.N X.env.scope scope own)
    (nv : ∀ i ∈ own.map (·.2), i ∉ io) (hs : ∀ i ∈ ts, i ∈ own.map (·.2))
    (hg : ∀ (s : Shared) (H : Hp) (C : Addr) (cl : List (Str × Addr)) (fp : List Addr), PGD (X.blk s H scope (compEnvC scope cl C X.env) fp) io tg ts g)
    (ht : ∀ (s : Shared) (H : Hp) (C : Addr) (cl : List (Str × Addr)) (fp : List Addr), PTsD (X.blk s H scope (compEnvC scope cl C X.env) fp) io ifs t)
    (he : ∀ (s : Shared) (H : Hp) (C : Addr) (cl : List (Str × Addr)) (fp : List Addr), PD (X.blk s H scope (compEnvC scope cl C X.env) fp) io elt ir) (hf : ∀ x, foldedSetIterable iter X.env x = pure x := by intro _; rfl) :
    PD X io (.ListComp elt [⟨tg, iter, ifs, 0⟩] scope pos) (dLc g it t ir (own.map (·.2))) :=
  ⟨fun c hc => PE_imp (pe_lc hcal hN (hi.pi c hc) ok (fun s H C cl fp => (hg s H C cl fp).x) (fun s H C cl fp => (ht s H C cl fp).pt) (fun s H C cl fp => (he s H C cl fp).x) hf) fun σ H Q h => by
    have := tof_lc (ts := ts) (by rw [hc]; exact nv) hs h
    rw [hc] at this
    exact this⟩
theorem psd_setLc {i : Nat} {y : Str} {py : Pos} {elt tg iter : Expr} {ifs : List Expr} {scope : Scope} {own : List (Str × Nat)} {pos spos : Pos} {ts : List Nat} {g : TGD} {it : TID} {t : TTD} {ir : TED} (hcal : X.calm = true) (hN : X.N.Nodup) (hy : X.N[i]? = some y) (hyl : X.env.scope.names.lookup y = some .local) (n : i ∉ io)
    (hsw : swapsWith (.ListComp elt [⟨tg, iter, ifs, 0⟩] scope pos) (some (.Name y py)) spos.line X.env = pure true) (hi : PID X io tg iter it) (ok : BlkOk X.N X.env.scope scope own)
    (nv : ∀ i ∈ own.map (·.2), i ∉ io) (hs : ∀ i ∈ ts, i ∈ own.map (·.2))
    (hg : ∀ (s : Shared) (H : Hp) (C : Addr) (cl : List (Str × Addr)) (fp : List Addr), PGD (X.blk s H scope (compEnvC scope cl C X.env) fp) io tg ts g)
    (ht : ∀ (s : Shared) (H : Hp) (C : Addr) (cl : List (Str × Addr)) (fp : List Addr), PTsD (X.blk s H scope (compEnvC scope cl C X.env) fp) io ifs t)
    (he : ∀ (s : Shared) (H : Hp) (C : Addr) (cl : List (Str × Addr)) (fp : List Addr), PD (X.blk s H scope (compEnvC scope cl C X.env) fp) io elt ir) (hf : ∀ x, foldedSetIterable iter X.env x = pure x := by intro _; rfl) :
    PSD X io (.Assign [.Name y py] (.ListComp elt [⟨tg, iter, ifs, 0⟩] scope pos) spos) (dAsg i (dLc g it t ir (own.map (·.2)))) :=
  ⟨fun c hc => PS_imp (ps_setLc hcal hN hy hyl hsw (hi.pi c hc) ok (fun s H C cl fp => (hg s H C cl fp).x) (fun s H C cl fp => (ht s H C cl fp).pt) (fun s H C cl fp => (he s H C cl fp).x) hf) fun E σ H h => by
    have := tof_lc (ts := ts) (by rw [hc]; exact nv) hs (tofs_asg (by rw [hc]; exact n) h)
    rw [hc] at this
    exact this⟩

/-! ### a list that a slot owns is changed -/
structure Gx (a : Addr) (G H G' H' : Hp) : Prop where
  g : Ex G G'
  h : ∀ b o, b ≠ a → H b = some o → H' b = some o
  s : Ex G' H'
  o : ∀ b o, b ≠ a → H b = some o → G' b = G b
def ownAt (e : List Sl) (j : Nat) : Option (List D) := match e[j]? with
  | some (.ol xs) => some xs
  | _ => none
theorem ownAt_some {j : Nat} {xs : List D} (h : ownAt e j = some xs) : e[j]? = some (.ol xs) := by
  unfold ownAt at h
  split at h
  · rename_i ys he
    cases h
    exact he
  · cases h
theorem SR.changed (S : SR K c e G σ H) {j : Nat} {xs ys : List D} {a : Addr} {us : List V} (hj : e[j]? = some (.ol xs)) (ha : σ[j]? = some (some (.ref a))) (x : Gx a G H G' H') (h1 : H' a = some (.lst us)) (h2 : G' a = none) (h3 : DpAll K G' us ys) : SR K c (e.set j (.ol ys)) G' σ H' := by
  obtain ⟨a', vs, q, r, n, d, z⟩ := S.ol j xs hj
  rw [ha] at q
  cases q
  have hl : j < e.length := (List.getElem?_eq_some_iff.mp hj).1
  have hne : ∀ b o, c.H0 b = some o → ¬ IoA c b → b ≠ a := fun b o h nb e => by
    subst e
    rcases z with z | z
    · rw [z] at h
      cases h
    · exact nb z
  refine ⟨x.s, fun b o h nb => x.h b o (hne b o h nb) (S.keep b o h nb), fun b o h nb => (x.o b o (hne b o h nb) (S.keep b o h nb)).trans (S.gk b o h nb), fun b o h => ?_, S.ioh, by rw [List.length_set]; exact S.len, fun i d' hi => ?_, fun i zs hi => ?_, fun i k zs ws b hi hk si sk => ?_, S.io, fun p hp => ?_, S.pnd⟩
  · by_cases hb : b = a
    · subst hb
      exact ⟨_, h1⟩
    · obtain ⟨o', ho⟩ := S.dom b o h
      exact ⟨o', x.h b o' hb ho⟩
  · by_cases hij : i = j
    · subst hij
      rw [List.getElem?_set_self hl] at hi
      cases hi
    · rw [List.getElem?_set_ne (Ne.symm hij)] at hi
      obtain ⟨v, q', r'⟩ := S.sh i d' hi
      exact ⟨v, q', x.g.dp r'⟩
  · by_cases hij : i = j
    · subst hij
      rw [List.getElem?_set_self hl] at hi
      cases hi
      exact ⟨a, us, ha, h1, h2, h3, z⟩
    · rw [List.getElem?_set_ne (Ne.symm hij)] at hi
      obtain ⟨b, ws, q', r', n', d', z'⟩ := S.ol i zs hi
      have hba : b ≠ a := fun e' => hij (S.inj i j zs xs a hi hj (by rw [q', e']) ha)
      exact ⟨b, ws, q', x.h b _ hba r', (x.o b _ hba r').trans n', x.g.dpa d', z'⟩
  · have key : ∀ m vs', (e.set j (.ol ys))[m]? = some (Sl.ol vs') → ∃ vs'', e[m]? = some (Sl.ol vs'') := fun m vs' hm => by
      by_cases hmj : m = j
      · subst hmj
        exact ⟨_, hj⟩
      · rw [List.getElem?_set_ne (Ne.symm hmj)] at hm
        exact ⟨_, hm⟩
    obtain ⟨z1, y1⟩ := key i zs hi
    obtain ⟨z2, y2⟩ := key k ws hk
    exact S.inj i k z1 z2 b y1 y2 si sk
  · obtain ⟨p1, p2, p3, p4⟩ := S.pin p hp
    have hpa : p.1 ≠ a := fun z => p4 j xs hj (by rw [z]; exact ha)
    refine ⟨x.h _ _ hpa p1, (x.o _ _ hpa p1).trans p2, p3, fun i zs hi => ?_⟩
    by_cases hij : i = j
    · subst hij
      exact p4 i xs hj
    · rw [List.getElem?_set_ne (Ne.symm hij)] at hi
      exact p4 i zs hi
theorem SR.rnc (S : SR K c e G σ H) {j : Nat} {xs ys : List D} (hj : e[j]? = some (.ol xs)) {v : V} {r : R} (h : RN K H G' H' v r) : RR K c (e.set j (.ol ys)) G' σ H' v r := by
  have h0 := S.rn h
  cases r with
  | val d => exact h0
  | loc j => exact h0
  | fr zs =>
    obtain ⟨a, vs, e1, q, n, d, f, pp, ff⟩ := h0
    refine ⟨a, vs, e1, q, n, d, f, pp, fun i ws hi => ?_⟩
    by_cases hij : i = j
    · subst hij
      exact ff i xs hj
    · rw [List.getElem?_set_ne (Ne.symm hij)] at hi
      exact ff i ws hi
/-- a change of an owned list told by values -/
structure OW (K : PySem.W.Frag) (f : List D → List D → (R → List D → Prop) → Prop) (r : V → List V → Hp → VK → Prop) : Prop where
  ok : ∀ (G H : Hp) (a : Addr) (us : List V) (xs : List D) (vs : List V) (ds : List D) (P : R → List D → Prop) (Q : VK), Ex G H → H a = some (.lst us) → G a = none → DpAll K G us xs → DpAll K G vs ds → f xs ds P →
    (∀ w z ys us' G' H', P z ys → Gx a G H G' H' → H' a = some (.lst us') → G' a = none → DpAll K G' us' ys → RN K H G' H' w z → Q w H') → r (.ref a) vs H Q
structure HW (f : List D → List D → (R → List D → Prop) → Prop) (xs ds : List D) (P : R → List D → Prop) : Prop where
  go : f xs ds P
def dMt (f : List D → List D → (R → List D → Prop) → Prop) (j : Nat) (ta : TAD) : TED := fun e Q => bnd (ownAt e j) fun _ => ta e fun rs e1 => bnd (leaks rs e1) fun p => bnd (ownAt p.2 j) fun xs => HW f xs p.1 fun r ys => Q r (p.2.set j (.ol ys))
theorem tof_mt {f : List D → List D → (R → List D → Prop) → Prop} {r : V → List V → Hp → VK → Prop} {j : Nat} {ta : TAD} (o : OW K f r) {Q : VK} (h : Tof K c (dMt f j ta) σ H Q) : tBM K "list" r (tVar j) (TofA K c ta) σ H Q := by
  obtain ⟨e, G, P, S, h, k⟩ := h
  obtain ⟨xs0, hx0, h1⟩ := bnd_inv h
  obtain ⟨a, us0, q0, r0, n0, d0, z0⟩ := S.ol j xs0 (ownAt_some hx0)
  refine ⟨.ref a, q0, .inl ⟨rfl, us0, .inl (.inl r0)⟩, e, G, _, S, h1, fun rs e1 vs G1 H1 h1 ex1 S1 r1 => ?_⟩
  obtain ⟨⟨ds, e2⟩, hl, h2⟩ := bnd_inv h1
  obtain ⟨G2, ex2, S2, d2⟩ := S1.leaksp r1 hl
  obtain ⟨xs, hx, h3⟩ := bnd_inv h2
  obtain ⟨a', us, q, r', n, d, z⟩ := S2.ol j xs (ownAt_some hx)
  rw [q0] at q
  cases q
  exact o.ok G2 H1 a us xs vs ds _ _ S2.sub r' n d d2 h3.go fun w z ys us' G' H' hz gx e1' e2' e3' rn => k _ _ w G' H' hz ((ex1.trans ex2).trans gx.g) (S2.changed (ownAt_some hx) q0 gx e1' e2' e3') (S2.rnc (ownAt_some hx) rn)
theorem tof_mt0 {f : List D → List D → (R → List D → Prop) → Prop} {r : V → List V → Hp → VK → Prop} {j : Nat} (o : OW K f r) {Q : VK} (h : Tof K c (dMt f j dNil) σ H Q) : tBM0 K "list" r (tVar j) σ H Q := by
  obtain ⟨e, G, P, S, h, k⟩ := h
  obtain ⟨xs0, hx0, h1⟩ := bnd_inv h
  obtain ⟨a, us0, q0, r0, n0, d0, z0⟩ := S.ol j xs0 (ownAt_some hx0)
  refine ⟨.ref a, q0, .inl ⟨rfl, us0, .inl (.inl r0)⟩, ?_⟩
  have h2 : bnd (ownAt e j) fun xs => HW f xs [] fun r ys => P r (e.set j (.ol ys)) := h1
  obtain ⟨xs, hx, h3⟩ := bnd_inv h2
  rw [hx0] at hx
  cases hx
  exact o.ok G H a us0 xs0 [] [] _ _ S.sub r0 n0 d0 .nil h3.go fun w z ys us' G' H' hz gx e1' e2' e3' rn => k _ _ w G' H' hz gx.g (S.changed (ownAt_some hx0) q0 gx e1' e2' e3') (S.rnc (ownAt_some hx0) rn)
def asI : D → Option Int
  | .int i => some i
  | _ => none
theorem asI_pk {v : V} {d : D} {k : Int} (h : PK K G H v d) (e : asI d = some k) : v = .int k := by
  cases d with
  | int b =>
    cases e
    exact h.int
  | _ => cases e
/-- xs[i] = .. -/
def dgSub (j : Nat) (ii : TED) : TGD := fun d e Q => bnd (ownAt e j) fun _ => ii e fun r e1 => bnd (peek e1 r.fz) fun x => bnd (asI x) fun k => bnd (ownAt e1 j) fun xs => bnd (ixN xs.length k) fun m => Q (e1.set j (.ol (xs.set m d)))
theorem Gx.upd {a : Addr} {o : HO} (s : Ex G H) (h : G a = none) : Gx a G H G (upd H a o) := by
  refine ⟨Ex.refl, fun b u hb e => by rw [upd_ne hb]; exact e, fun b u e => ?_, fun _ _ _ _ => rfl⟩
  have hb : b ≠ a := fun z => by
    rw [z, h] at e
    cases e
  rw [upd_ne hb]
  exact s b u e
theorem tofg_sub {j : Nat} {ii : TED} {v : V} {Q : L2.St → Hp → Prop} (h : TofG K c [] (dgSub j ii) v σ H Q) : gSub (tVar j) (Tof K c ii) rSetL v σ H Q := by
  obtain ⟨e, G, d, P, S, dp, h, k⟩ := h
  obtain ⟨xs0, hx0, h1⟩ := bnd_inv h
  obtain ⟨a, us0, q0, r0, n0, d0, z0⟩ := S.ol j xs0 (ownAt_some hx0)
  refine ⟨.ref a, q0, e, G, _, S, h1, fun r e1 v1 G1 H1 h1 ex1 S1 r1 => ?_⟩
  obtain ⟨G2, ex2, S2, p2⟩ := S1.fzp r1
  obtain ⟨dx, hdx, h2⟩ := bnd_inv h1
  obtain ⟨i, hi, h3⟩ := bnd_inv h2
  obtain ⟨xs, hx, h4⟩ := bnd_inv h3
  obtain ⟨m, hm, h5⟩ := bnd_inv h4
  obtain ⟨a', us, q, r', n, d', z⟩ := S2.ol j xs (ownAt_some hx)
  rw [q0] at q
  cases q
  refine ⟨a, us, i, m, rfl, asI_pk (S2.peekp p2 hdx) hi, r', by rw [dpa_len d']; exact hm, ?_⟩
  exact k _ G2 σ _ h5 (ex1.trans ex2) (S2.changed (ownAt_some hx) q0 (Gx.upd S2.sub n) upd_same n (dpa_set m d' ((ex1.trans ex2).dp dp))) Sm.refl
theorem pgd_sub {o i : Expr} {j : Nat} {ii : TED} {pos : Pos} (ho : PE X o (tVar j)) (hi : PD X io i ii) (h : ∀ c : C0, c.ios = io → PG X (.Subscript o i pos) (gSub (tVar j) (Tof X.K c ii) rSetL)) : PGD X io (.Subscript o i pos) [] (dgSub j ii) :=
  ⟨fun c hc => PG_imp (h c hc) fun _ _ _ _ => tofg_sub⟩

/-! ### calls of the program's own defs -/
abbrev DS0 := List D → (R → Prop) → Prop
abbrev DS1 := List D → List D → (R → List D → Prop) → Prop
def spOf0 (K : PySem.W.Frag) (n : Nat) (s : DS0) : Sp := fun vs H Q _ => ∃ G ds P, Ex G H ∧ DpAll K G vs ds ∧ vs.length = n ∧ s ds P ∧ ∀ r v G' H', P r → Gr G H G' H' → RN K H G' H' v r → Q v H'
def spOf1 (K : PySem.W.Frag) (n : Nat) (s : DS1) : Sp := fun vs H Q _ => ∃ a vs' us G xs ds P, vs = .ref a :: vs' ∧ Ex G H ∧ H a = some (.lst us) ∧ G a = none ∧ DpAll K G us xs ∧ DpAll K G vs' ds ∧ vs.length = n ∧ s xs ds P ∧
  ∀ r ys v us' G' H', P r ys → Gx a G H G' H' → H' a = some (.lst us') → G' a = none → DpAll K G' us' ys → RN K H G' H' v r → Q v H'
def dCall0 (s : DS0) (ta : TAD) : TED := fun e Q => ta e fun rs e1 => bnd (leaks rs e1) fun p => s p.1 fun r => Q r p.2
def call1 (s : DS1) (rs : List R) (e : List Sl) (Q : R → List Sl → Prop) : Prop := match rs with
  | .loc j :: rs => bnd (leaks rs e) fun p => bnd (ownAt p.2 j) fun xs => s xs p.1 fun r ys => Q r (p.2.set j (.ol ys))
  | _ => False
def dCall1 (s : DS1) (ta : TAD) : TED := fun e Q => ta e fun rs e1 => call1 s rs e1 Q
theorem tof_call0 {s : DS0} {n : Nat} {ta : TAD} {E : XK} {Q : VK} (hn : ∀ ds P, s ds P → ds.length = n) (h : Tof K c (dCall0 s ta) σ H Q) : tCall (spOf0 K n s) [] E (TofA K c ta) σ H Q := by
  obtain ⟨e, G, P, S, h, k⟩ := h
  refine ⟨e, G, _, S, h, fun rs e1 vs G1 H1 h1 ex1 S1 r1 => ?_⟩
  obtain ⟨⟨ds, e2⟩, hl, h2⟩ := bnd_inv h1
  obtain ⟨G2, ex2, S2, d2⟩ := S1.leaksp r1 hl
  show spOf0 K n s (vs ++ []) H1 Q E
  rw [List.append_nil]
  exact ⟨G2, ds, _, S2.sub, d2, by rw [dpa_len d2]; exact hn _ _ h2, h2, fun r v G' H' hp g rn => k r e2 v G' H' hp ((ex1.trans ex2).trans g.g) (S2.grow g) (S2.rn rn)⟩
theorem tof_call1 {s : DS1} {n : Nat} {ta : TAD} {E : XK} {Q : VK} (hn : ∀ xs ds P, s xs ds P → ds.length + 1 = n) (h : Tof K c (dCall1 s ta) σ H Q) : tCall (spOf1 K n s) [] E (TofA K c ta) σ H Q := by
  obtain ⟨e, G, P, S, h, k⟩ := h
  refine ⟨e, G, _, S, h, fun rs e1 vs G1 H1 h1 ex1 S1 r1 => ?_⟩
  show spOf1 K n s (vs ++ []) H1 Q E
  rw [List.append_nil]
  cases r1 with
  | nil => exact h1.elim
  | cons rp rps =>
    rename_i v r vs rs
    cases r with
    | loc j =>
      obtain ⟨⟨ds, e2⟩, hl, h2⟩ := bnd_inv (show bnd _ _ from h1)
      obtain ⟨G2, ex2, S2, d2⟩ := S1.leaksp rps hl
      obtain ⟨xs, hx, h3⟩ := bnd_inv h2
      obtain ⟨a, us, q, r', n', d, z⟩ := S2.ol j xs (ownAt_some hx)
      have ev : V.ref a = v := Option.some.inj (Option.some.inj (q.symm.trans rp))
      subst ev
      exact ⟨a, vs, us, G2, xs, ds, _, rfl, S2.sub, r', n', d, d2, by rw [List.length_cons, dpa_len d2]; exact hn _ _ _ h3, h3, fun r ys v us' G' H' hp gx h1' h2' h3' rn =>
        k r _ v G' H' hp ((ex1.trans ex2).trans gx.g) (S2.changed (ownAt_some hx) q gx h1' h2' h3') (S2.rnc (ownAt_some hx) rn)⟩
    | val d => exact h1.elim
    | fr xs => exact h1.elim
/-- a def that is known by its name -/
structure Dfn (X : Cx) (CX : CXT) (k : Nat) (x : Str) (ps : List Str) (sp : Sp) : Prop where
  ex : ∃ f fd, X.mg x = some (.ref f) ∧ PySem.W.keepIn X.K (.ref f) = true ∧ Binds X.K fd ps [] ∧ FnG X.prog X.w X.K X.mg X.base CX k f fd ps sp
variable {CX : CXT} {k n : Nat} {x : Str} {ps : List Str} {a : Expr} {es : List Expr} {ta : TAD} {p pos : Pos}
theorem pd_call0 {s : DS0} (D : Dfn X CX k x ps (spOf0 X.K n s)) (hn : ∀ ds P, s ds P → ds.length = n) (hr : RoomG k X.A) (hx : Passes CX X fun _ _ _ => False) (hg : Gl X x) (ha : PAD X io (a :: es) ta) (hdb : (x == ("__debug__" : Str)) = false := by decide)
    (he : starEach (a :: es) X.env = (false, eval a X.env) :: starEach es X.env := by rfl) (hpl : (backTo pos (starEach es X.env)).any (·.1) = false := by rfl) : PD X io (.Call (.Name x p) (a :: es) [] pos) (dCall0 s ta) := by
  obtain ⟨f, fd, hm, hk, hb, F⟩ := D.ex
  exact ⟨fun c hc => PE_imp (pe_callG F hr hg hm hk hb .nil hx (ha.pa c hc) hdb he hpl) fun _ _ _ => tof_call0 hn⟩
theorem pd_call1 {s : DS1} (D : Dfn X CX k x ps (spOf1 X.K n s)) (hn : ∀ xs ds P, s xs ds P → ds.length + 1 = n) (hr : RoomG k X.A) (hx : Passes CX X fun _ _ _ => False) (hg : Gl X x) (ha : PAD X io (a :: es) ta) (hdb : (x == ("__debug__" : Str)) = false := by decide)
    (he : starEach (a :: es) X.env = (false, eval a X.env) :: starEach es X.env := by rfl) (hpl : (backTo pos (starEach es X.env)).any (·.1) = false := by rfl) : PD X io (.Call (.Name x p) (a :: es) [] pos) (dCall1 s ta) := by
  obtain ⟨f, fd, hm, hk, hb, F⟩ := D.ex
  exact ⟨fun c hc => PE_imp (pe_callG F hr hg hm hk hb .nil hx (ha.pa c hc) hdb he hpl) fun _ _ _ => tof_call1 hn⟩

/-! ### a def by its body -/
def retD (io : List Nat) (r : R) (e : List Sl) (P : R → Prop) : Prop := match r with
  | .val d => P (.val d)
  | .fr xs => P (.fr xs)
  | .loc j => match e[j]? with
    | some (.sh d) => P (.val d)
    | some (.ol xs) => j ∉ io ∧ P (.fr xs)
    | _ => False
def DE0 (P : R → Prop) : DE := { nx := fun _ => P (.val .none), rt := fun r e => retD [] r e P }
def DE1 (P : R → List D → Prop) : DE := { nx := fun e => bnd (ownAt e 0) fun ys => P (.val .none) ys, rt := fun r e => bnd (ownAt e 0) fun ys => retD [0] r e fun r => P r ys }
def start0 (n : Nat) (ds : List D) : List Sl := ds.map Sl.sh ++ List.replicate (n - ds.length) .un
def start1 (n : Nat) (xs ds : List D) : List Sl := .ol xs :: ds.map Sl.sh ++ List.replicate (n - (ds.length + 1)) .un
theorem ret_rn (S : SR K c e G' σ H') {v : V} {r : R} (io : List Nat) (hio : ∀ j a xs, j ∉ io → e[j]? = some (.ol xs) → σ[j]? = some (some (.ref a)) → ¬ IoA c a) (hr : RR K c e G' σ H' v r) {P : R → Prop} (h : retD io r e P) : ∃ r', P r' ∧ RN K c.H0 G' H' v r' := by
  cases r with
  | val d => exact ⟨_, h, hr⟩
  | fr xs =>
    obtain ⟨a, vs, e1, q, n, d, f, _⟩ := hr
    exact ⟨_, h, a, vs, e1, q, n, d, f⟩
  | loc j =>
    simp only [retD] at h
    split at h
    · rename_i d he
      obtain ⟨v', q, dp⟩ := S.sh j d he
      have ev : v' = v := Option.some.inj (Option.some.inj (q.symm.trans hr))
      subst ev
      exact ⟨_, h, dp⟩
    · rename_i xs he
      obtain ⟨a, vs, q, r', n', d, z⟩ := S.ol j xs he
      have ev : V.ref a = v := Option.some.inj (Option.some.inj (q.symm.trans hr))
      subst ev
      exact ⟨_, h.2, a, vs, rfl, r', n', d, z.elim id fun z => (hio j a xs h.1 he q z).elim⟩
    · exact h.elim
theorem get_start {N : List Str} {vs : List V} {i : Nat} (h : i < vs.length) : (L2.start N vs)[i]? = some (vs[i]?) := by
  unfold L2.start
  rw [List.getElem?_append_left (by rw [List.length_map]; exact h), List.getElem?_map, List.getElem?_eq_getElem h]
  rfl
theorem sr_start0 {N : List Str} {vs : List V} {ds : List D} (s : Ex G H) (d : DpAll K G vs ds) (hl : vs.length ≤ N.length) : SR K ⟨G, H, [], fun _ => 0, []⟩ (start0 N.length ds) G (L2.start N vs) H := by
  have el := dpa_len d
  refine ⟨s, fun _ _ h _ => h, fun _ _ _ _ => rfl, fun a o h => ⟨o, h⟩, fun j h => by simp at h, by simp [start0, L2.start, el], fun i d' hi => ?_, fun i xs hi => ?_, fun i j xs ys a hi => ?_, fun j h => by simp at h, fun p h => by simp at h, by simp⟩
  · have key : ds[i]? = some d' := by
      unfold start0 at hi
      by_cases z : i < ds.length
      · rw [List.getElem?_append_left (by rw [List.length_map]; exact z), List.getElem?_map] at hi
        cases h : ds[i]? with
        | none => rw [h] at hi; cases hi
        | some x => rw [h] at hi; cases hi; rfl
      · rw [List.getElem?_append_right (by rw [List.length_map]; omega), List.getElem?_replicate] at hi
        split at hi <;> cases hi
    obtain ⟨v, q, dp⟩ := dpa_get d key
    exact ⟨v, by rw [get_start (List.getElem?_eq_some_iff.mp q).1, q], dp⟩
  all_goals
    exfalso
    unfold start0 at hi
    by_cases z : i < ds.length
    · rw [List.getElem?_append_left (by rw [List.length_map]; exact z), List.getElem?_map] at hi
      cases h : ds[i]? with
      | none => rw [h] at hi; cases hi
      | some x => rw [h] at hi; cases hi
    · rw [List.getElem?_append_right (by rw [List.length_map]; omega), List.getElem?_replicate] at hi
      split at hi <;> cases hi
theorem sr_start1 {N : List Str} {vs us : List V} {xs ds : List D} {b : Addr} (s : Ex G H) (hb : H b = some (.lst us)) (gb : G b = none) (dx : DpAll K G us xs) (d : DpAll K G vs ds) (hl : vs.length + 1 ≤ N.length) : SR K ⟨G, H, [0], fun _ => b, []⟩ (start1 N.length xs ds) G (L2.start N (.ref b :: vs)) H := by
  have el := dpa_len d
  have kol : ∀ (i : Nat) (s : Sl), (start1 N.length xs ds)[i]? = some s → (i = 0 ∧ s = .ol xs) ∨ (∃ j d', i = j + 1 ∧ s = .sh d' ∧ ds[j]? = some d') ∨ s = .un := fun i s hi => by
    cases i with
    | zero =>
      unfold start1 at hi
      rw [List.cons_append, List.getElem?_cons_zero] at hi
      exact .inl ⟨rfl, (Option.some.inj hi).symm⟩
    | succ i =>
      unfold start1 at hi
      rw [List.cons_append, List.getElem?_cons_succ] at hi
      by_cases z : i < ds.length
      · rw [List.getElem?_append_left (by rw [List.length_map]; exact z), List.getElem?_map] at hi
        cases h : ds[i]? with
        | none => rw [h] at hi; cases hi
        | some x =>
          rw [h] at hi
          exact .inr (.inl ⟨i, x, rfl, (Option.some.inj hi).symm, h⟩)
      · rw [List.getElem?_append_right (by rw [List.length_map]; omega), List.getElem?_replicate] at hi
        split at hi
        · exact .inr (.inr (Option.some.inj hi).symm)
        · cases hi
  have s0 : (L2.start N (.ref b :: vs))[0]? = some (some (V.ref b)) := by rw [get_start (by simp)]; rfl
  have n0 : ∀ {i : Nat} {ys : List D}, (start1 N.length xs ds)[i]? = some (.ol ys) → i = 0 ∧ ys = xs := fun {i ys} hi => by
    rcases kol i _ hi with ⟨a, q⟩ | ⟨j, d', _, q, _⟩ | q
    · cases q
      exact ⟨a, rfl⟩
    · cases q
    · cases q
  refine ⟨s, fun _ _ h _ => h, fun _ _ _ _ => rfl, fun a o h => ⟨o, h⟩, fun j h => ⟨_, hb⟩, by simp [start1, L2.start, el], fun i d' hi => ?_, fun i ys hi => ?_, fun i j ys zs a hi hj _ _ => ?_, fun j h => ?_, fun p h => by simp at h, by simp⟩
  · rcases kol i _ hi with ⟨_, q⟩ | ⟨j, d2, rfl, q, hj⟩ | q
    · cases q
    · cases q
      obtain ⟨v, q, dp⟩ := dpa_get d hj
      refine ⟨v, ?_, dp⟩
      have hlt := (List.getElem?_eq_some_iff.mp q).1
      rw [get_start (by rw [List.length_cons]; omega), List.getElem?_cons_succ, q]
    · cases q
  · obtain ⟨rfl, rfl⟩ := n0 hi
    exact ⟨b, us, s0, hb, gb, dx, .inr ⟨0, by simp, rfl⟩⟩
  · rw [(n0 hi).1, (n0 hj).1]
  · have : j = 0 := by simpa using h
    subst this
    exact s0
theorem fn_d0 {P : Program} {w : World} {mg : Str → Option Value} {base : Heap} {x qual : Str} {st : Stmt} {f : Addr} {fd : FuncData} {N : List Str} {s : DS0} {t : TSD} (F : Fun K x qual st f fd) (Sc : FnScope N ps (defScope st)) (hps : ps.length ≤ N.length)
    (hn : ∀ ds Q, s ds Q → ds.length = ps.length)
    (hb : ∀ (cdv : Value) (A : Around) (outer : List Env) (s1 : Shared) (H : Hp) (E : XK), RoomG k (A.deeper (envOfC qual (defScope st) s1.heap.objs.size f cdv)) → PSsD (cxOf CX P w K mg base N qual (defScope st) f cdv A outer s1 H E).nox [] (defBody st) t)
    (ht : ∀ ds Q, s ds Q → t (DE0 Q) (start0 N.length ds)) : FnG P w K mg base CX (k + 1) f fd ps (spOf0 K ps.length s) := by
  obtain ⟨oc, od, kV, doc, pm, an, cdv, ct, osl, rfl, lk, hcd⟩ := F.ex
  refine fnG_of lk hcd Sc (fun vs H Q E h => ?_) fun A outer s1 H vs Q E hr h => ?_
  · obtain ⟨_, _, _, _, _, hl, _⟩ := h
    exact hl
  · obtain ⟨G, ds, P', ex, d, hl, hs, kk⟩ := h
    have S0 : SR K ⟨G, H, [], fun _ => 0, []⟩ (start0 N.length ds) G (L2.start N vs) H := sr_start0 ex d (by rw [hl]; exact hps)
    have gr : ∀ {e' : List Sl} {G' H' : Hp} {σ' : L2.St}, Ex G G' → SR K ⟨G, H, [], fun _ => 0, []⟩ e' G' σ' H' → Gr G H G' H' := fun {e' G' H' σ'} ex S => ⟨ex, fun a o h => S.keep a o h (fun ⟨j, hj, _⟩ => by simp at hj), S.sub, fun a o h => S.gk a o h (fun ⟨j, hj, _⟩ => by simp at hj)⟩
    refine ⟨_, ((hb cdv A outer s1 H E hr).ps ⟨G, H, [], fun _ => 0, []⟩ rfl).nox, start0 N.length ds, G, _, S0, ht ds P' hs, ⟨fun e' G' σ' H' a b S => kk _ .non G' H' a (gr b S) .non, fun _ _ _ _ a _ _ => a.elim, fun _ _ _ _ a _ _ => a.elim, fun r e' v G' σ' H' a b S rr => ?_⟩⟩
    obtain ⟨r', hp, rn⟩ := ret_rn S [] (fun j a xs _ _ _ ⟨i, hi, _⟩ => by simp at hi) rr a
    exact kk r' v G' H' hp (gr b S) rn
theorem fn_d1 {P : Program} {w : World} {mg : Str → Option Value} {base : Heap} {x qual : Str} {st : Stmt} {f : Addr} {fd : FuncData} {N : List Str} {s : DS1} {t : TSD} (F : Fun K x qual st f fd) (Sc : FnScope N ps (defScope st)) (hps : ps.length ≤ N.length)
    (hn : ∀ xs ds Q, s xs ds Q → ds.length + 1 = ps.length)
    (hb : ∀ (cdv : Value) (A : Around) (outer : List Env) (s1 : Shared) (H : Hp) (E : XK), RoomG k (A.deeper (envOfC qual (defScope st) s1.heap.objs.size f cdv)) → PSsD (cxOf CX P w K mg base N qual (defScope st) f cdv A outer s1 H E).nox [0] (defBody st) t)
    (ht : ∀ xs ds Q, s xs ds Q → t (DE1 Q) (start1 N.length xs ds)) : FnG P w K mg base CX (k + 1) f fd ps (spOf1 K ps.length s) := by
  obtain ⟨oc, od, kV, doc, pm, an, cdv, ct, osl, rfl, lk, hcd⟩ := F.ex
  refine fnG_of lk hcd Sc (fun vs H Q E h => ?_) fun A outer s1 H vs Q E hr h => ?_
  · obtain ⟨_, _, _, _, _, _, _, _, _, _, _, _, _, hl, _⟩ := h
    exact hl
  · obtain ⟨b, vs, us, G, xs, ds, P', rfl, ex, hbb, gb, dx, d, hl, hs, kk⟩ := h
    have S0 : SR K ⟨G, H, [0], fun _ => b, []⟩ (start1 N.length xs ds) G (L2.start N (.ref b :: vs)) H := sr_start1 ex hbb gb dx d (by rw [← List.length_cons, hl]; exact hps)
    have hne : ∀ {a : Addr}, a ≠ b → ¬ IoA ⟨G, H, [0], fun _ => b, []⟩ a := fun h ⟨j, _, e⟩ => h e.symm
    have gr : ∀ {e' : List Sl} {G' H' : Hp} {σ' : L2.St}, Ex G G' → SR K ⟨G, H, [0], fun _ => b, []⟩ e' G' σ' H' → Gx b G H G' H' := fun {e' G' H' σ'} ex S => ⟨ex, fun a o hn h => S.keep a o h (hne hn), S.sub, fun a o hn h => S.gk a o h (hne hn)⟩
    have fin : ∀ {e' : List Sl} {G' H' : Hp} {σ' : L2.St} {ys : List D}, SR K ⟨G, H, [0], fun _ => b, []⟩ e' G' σ' H' → ownAt e' 0 = some ys → ∃ us', H' b = some (.lst us') ∧ G' b = none ∧ DpAll K G' us' ys := fun {e' G' H' σ' ys} S h => by
      obtain ⟨a, us', q, r, n, d, _⟩ := S.ol 0 ys (ownAt_some h)
      have := S.io 0 (by simp)
      rw [this] at q
      cases q
      exact ⟨us', r, n, d⟩
    refine ⟨_, ((hb cdv A outer s1 H E hr).ps ⟨G, H, [0], fun _ => b, []⟩ rfl).nox, start1 N.length xs ds, G, _, S0, ht xs ds P' hs, ⟨fun e' G' σ' H' a ex' S => ?_, fun _ _ _ _ a _ _ => a.elim, fun _ _ _ _ a _ _ => a.elim, fun r e' v G' σ' H' a ex' S rr => ?_⟩⟩
    · obtain ⟨ys, hy, a⟩ := bnd_inv a
      obtain ⟨us', h1, h2, h3⟩ := fin S hy
      exact kk _ ys .non us' G' H' a (gr ex' S) h1 h2 h3 .non
    · obtain ⟨ys, hy, a⟩ := bnd_inv a
      obtain ⟨us', h1, h2, h3⟩ := fin S hy
      obtain ⟨r', hp, rn⟩ := ret_rn S [0] (fun j a' xs' hj hjo hja ⟨i, hi, e1⟩ => by
        have hab : b = a' := e1
        subst hab
        exact hj (by rw [S.inj j 0 xs' ys b hjo (ownAt_some hy) hja (S.io 0 (by simp))]; simp)) rr a
      exact kk r' ys v us' G' H' hp (gr ex' S) h1 h2 h3 rn
end
end HD


set_option Elab.async false
set_option linter.all false
set_option maxRecDepth 100000
set_option maxHeartbeats 4000000
namespace HD
open PySem PySem.Spec PyProof.Rows L2
section
variable {K : PySem.W.Frag} {G H G' H' : Hp} {X : Cx}

/-! ### + -/
def rCatLG (K : PySem.W.Frag) : R2 := fun x y H Q => ∃ l b xs zs, x = .ref l ∧ y = .ref b ∧ SqL K H l xs ∧ SqL K H b zs ∧ xs.length + zs.length ≤ sizeLine ∧ ∀ p, H p = none → Q (.ref p) (upd H p (.lst (xs ++ zs)))
theorem opr_catL : OpR X (binaryOp .Add) (rCatLG X.K) := by
  intro pins s σ H x y v u Q I rx ry h
  obtain ⟨l, b, xs, zs, rfl, rfl, hl, hb, hz, q⟩ := h
  cases rx
  cases ry
  obtain ⟨i1, r1, ⟨⟨c1, d1, t1, s1⟩, n1, e1, k1, _, f1⟩, _⟩ := I.list hl
  obtain ⟨i2, r2, ⟨⟨c2, d2, t2, s2⟩, n2, e2, k2, _, f2⟩, _⟩ := I.list hb
  simp only at k1 f1 k2 f2
  subst k1 f1 k2 f2
  have sz : i1.toArray.size + i2.toArray.size ≤ sizeLine := by
    rw [List.size_toArray, List.size_toArray, ← r1.length, ← r2.length]
    exact hz
  refine concat_meets ⟨_, e1, rfl⟩ ⟨_, e2, rfl⟩ noFill_list_add seq_list_add PySem.F.slot_list_add PySem.F.entry_list_add (PySem.F.args_list_add_2 _ _) (list_addW l b i1.toArray i2.toArray n1 n2 d1 d2 s1 s2 sz) ⟨e1, e2, ?_⟩
  rw [List.append_toArray]
  exact ⟨.ref _, _, I.lnew (t' := s.toks) (r1.append r2) (by rw [List.length_append]; exact hz), rfl, q _ I.fresh⟩
def rCatTG (K : PySem.W.Frag) : R2 := fun x y H Q => ∃ a b xs ys, x = .ref a ∧ y = .ref b ∧ SqT K H a xs ∧ SqT K H b ys ∧ xs.length + ys.length ≤ sizeLine ∧
  (xs = [] → Q (.ref b) H) ∧ (ys = [] → Q (.ref a) H) ∧ ∀ p, H p = none → Q (.ref p) (upd H p (.tup (xs ++ ys)))
theorem opr_catT : OpR X (binaryOp .Add) (rCatTG X.K) := by
  intro pins s σ H x y v u Q I rx ry h
  obtain ⟨a, b, xs, ys, rfl, rfl, ha, hb, hz, q0, q1, q2⟩ := h
  cases rx
  cases ry
  obtain ⟨i1, r1, t1, _⟩ := I.tuple ha
  obtain ⟨i2, r2, t2, _⟩ := I.tuple hb
  by_cases hx : xs = []
  · subst hx
    cases r1
    obtain ⟨⟨c1, d1, u1, s1⟩, e1, k1, n1, f1⟩ := id t1
    obtain ⟨⟨c2, d2, u2, s2⟩, e2, k2, n2, f2⟩ := id t2
    simp only at k1 f1 k2 f2
    subst k1 f1 k2 f2
    exact concat_meets ⟨_, e1, rfl⟩ ⟨_, e2, rfl⟩ noFill_tuple_add seq_tuple_add PySem.F.slot_tuple_add PySem.F.entry_tuple_add (PySem.F.args_tuple_add_2 _ _) (tuple_addW0 a b _ i2.toArray n1 n2 d1 d2 s1 s2 rfl) ⟨e1, e2, .ref b, H, I, rfl, q0 rfl⟩
  · refine HT.cat_tup t1 t2 (fun z => hx (r1.nil_iff.mp z)) (fun z => ⟨.ref a, H, I, rfl, q1 (r2.nil_iff.mp z)⟩) (fun z => ?_) (by rw [← r1.length, ← r2.length]; exact hz)
    refine ⟨.ref s.heap.objs.size, _, I.laid (t' := s.toks) (o := .tup (xs ++ ys)) (fun b ob q => Heap.get?_push_of_some _ q) (Nat.le_refl _) ?_, rfl, q2 _ I.fresh⟩
    exact ⟨by rw [List.length_append]; exact hz, _, r1.append r2, IsTup.new _ _⟩
def rAddA (K : PySem.W.Frag) : R2 := fun x y H Q => (rI0 (fun i j => .int (i + j)) x y H Q ∨ ∃ i j, x = .str i ∧ y = .str j ∧ i.length + j.length ≤ sizeLine ∧ Q (.str (i ++ j)) H) ∨ rCatLG K x y H Q ∨ rCatTG K x y H Q
theorem opr_add : OpR X (binaryOp .Add) (rAddA X.K) := (op_add.or op_add_str).or (opr_catL.or opr_catT)
@[irreducible] def addD (x y : D) (P : R → Prop) : Prop := match x, y with
  | .int i, .int j => P (.val (.int (i + j)))
  | .str a, .str b => a.length + b.length ≤ sizeLine ∧ P (.val (.str (a ++ b)))
  | .list a, .list b => a.length + b.length ≤ sizeLine ∧ P (.fr (a ++ b))
  | .tuple a, .tuple b => a.length + b.length ≤ sizeLine ∧ P (.val (.tuple (a ++ b)))
  | _, _ => False
theorem o2_add : O2 K addD (rAddA K) := by
  refine ⟨fun G H v u x y P Q s hx hy h k => ?_⟩
  unfold addD at h
  split at h
  · rw [hx.int, hy.int]
    exact .inl (.inl ⟨_, _, rfl, rfl, k _ _ G H h (Gr.refl s) (.int _)⟩)
  · rw [hx.str, hy.str]
    exact .inl (.inr ⟨_, _, rfl, rfl, h.1, k _ _ G H h.2 (Gr.refl s) (.str _)⟩)
  · obtain ⟨a, vs, rfl, h1, h2⟩ := hx.list s
    obtain ⟨b, us, rfl, h3, h4⟩ := hy.list s
    refine .inr (.inl ⟨a, b, vs, us, rfl, rfl, h1, h3, by rw [dpa_len h2, dpa_len h4]; exact h.1, fun p hp => ?_⟩)
    exact k _ _ G _ h.2 (Gr.own s hp) ⟨p, _, rfl, upd_same, s.back hp, dpa_app h2 h4, hp⟩
  · obtain ⟨a, vs, rfl, h1, h2⟩ := hx.tuple s
    obtain ⟨b, us, rfl, h3, h4⟩ := hy.tuple s
    refine .inr (.inr ⟨a, b, vs, us, rfl, rfl, h1, h3, by rw [dpa_len h2, dpa_len h4]; exact h.1, fun e => ?_, fun e => ?_, fun p hp => ?_⟩)
    · subst e
      cases h2
      refine k _ _ G H h.2 (Gr.refl s) ?_
      rcases hy with hy | ⟨_, _, _, _, e, _⟩
      · exact hy
      · cases e
    · subst e
      cases h4
      refine k _ _ G H h.2 (Gr.refl s) ?_
      rw [List.append_nil]
      rcases hx with hx | ⟨_, _, _, _, e, _⟩
      · exact hx
      · cases e
    · have g := Gr.new (o := .tup (vs ++ us)) s hp
      exact k _ _ _ _ h.2 g (.tup (.inl (.inl upd_same)) (g.g.dpa (dpa_app h2 h4)))
  · exact h.elim

/-! ### whole numbers -/
def intD (C : Int → Int → Prop) (g : Int → Int → D) (x y : D) (P : R → Prop) : Prop := match x, y with
  | .int i, .int j => C i j ∧ P (.val (g i j))
  | _, _ => False
theorem o2_int {C : Int → Int → Prop} {g : Int → Int → V} {gd : Int → Int → D} (hg : ∀ i j G, Dp K G (g i j) (gd i j)) : O2 K (intD C gd) (rI C g) := by
  refine ⟨fun G H v u x y P Q s hx hy h k => ?_⟩
  unfold intD at h
  split at h
  · rw [hx.int, hy.int]
    exact ⟨_, _, rfl, rfl, h.1, k _ _ G H h.2 (Gr.refl s) (hg _ _ _)⟩
  · exact h.elim
def intD0 (g : Int → Int → D) (x y : D) (P : R → Prop) : Prop := match x, y with
  | .int i, .int j => P (.val (g i j))
  | _, _ => False
theorem o2_int0 {g : Int → Int → V} {gd : Int → Int → D} (hg : ∀ i j G, Dp K G (g i j) (gd i j)) : O2 K (intD0 gd) (rI0 g) := by
  refine ⟨fun G H v u x y P Q s hx hy h k => ?_⟩
  unfold intD0 at h
  split at h
  · rw [hx.int, hy.int]
    exact ⟨_, _, rfl, rfl, k _ _ G H h (Gr.refl s) (hg _ _ _)⟩
  · exact h.elim
abbrev subD := intD0 fun i j => .int (i - j)
abbrev mulD := intD CMul fun i j => .int (i * j)
abbrev fdivD := intD CDiv fun i j => .int (i / j)
abbrev modD := intD (fun _ j => 0 < j) fun i j => .int (i % j)
abbrev powD := intD CPow fun i j => .int (i ^ j.toNat)
theorem o2_sub : O2 K subD (rI0 fun i j => .int (i - j)) := o2_int0 fun _ _ _ => .int _
theorem o2_mul : O2 K mulD (rI CMul fun i j => .int (i * j)) := o2_int fun _ _ _ => .int _
theorem o2_fdiv : O2 K fdivD (rI CDiv fun i j => .int (i / j)) := o2_int fun _ _ _ => .int _
theorem o2_mod : O2 K modD (rI (fun _ j => 0 < j) fun i j => .int (i % j)) := o2_int fun _ _ _ => .int _
theorem o2_pow : O2 K powD (rI CPow fun i j => .int (i ^ j.toNat)) := o2_int fun _ _ _ => .int _
def negD (x : D) (P : R → Prop) : Prop := match x with
  | .int i => P (.val (.int (-i)))
  | _ => False
theorem o1_neg : O1 K negD (rU fun i => .int (-i)) := by
  refine ⟨fun G H v x P Q s hx h k => ?_⟩
  unfold negD at h
  split at h
  · rw [hx.int]
    exact ⟨_, rfl, k _ _ G H h (Gr.refl s) (.int _)⟩
  · exact h.elim
abbrev ltD := intD0 fun i j => .bool (decide (i < j))
abbrev leD := intD0 fun i j => .bool (decide (i ≤ j))
abbrev gtD := intD0 fun i j => .bool (decide (j < i))
abbrev geD := intD0 fun i j => .bool (decide (j ≤ i))
theorem o2_lt : O2 K ltD (rI0 fun i j => .bl (decide (i < j))) := o2_int0 fun _ _ _ => .bl _
theorem o2_le : O2 K leD (rI0 fun i j => .bl (decide (i ≤ j))) := o2_int0 fun _ _ _ => .bl _
theorem o2_gt : O2 K gtD (rI0 fun i j => .bl (decide (j < i))) := o2_int0 fun _ _ _ => .bl _
theorem o2_ge : O2 K geD (rI0 fun i j => .bl (decide (j ≤ i))) := o2_int0 fun _ _ _ => .bl _

/-! ### ==, != -/
def okD (d : D) : Prop := SeqAt.shaped d = true
@[irreducible] def eqD (x y : D) (P : R → Prop) : Prop := match x, y with
  | .int i, .int j => P (.val (.bool (decide (i = j))))
  | .str i, .str j => P (.val (.bool (decide (i = j))))
  | .bool i, .bool j => P (.val (.bool (decide (i = j))))
  | x, y => okD x ∧ okD y ∧ P (.val (.bool (PyData.eqv x y)))
@[irreducible] def neD (x y : D) (P : R → Prop) : Prop := match x, y with
  | .int i, .int j => P (.val (.bool (!decide (i = j))))
  | .str i, .str j => P (.val (.bool (!decide (i = j))))
  | .bool i, .bool j => P (.val (.bool (!decide (i = j))))
  | x, y => okD x ∧ okD y ∧ P (.val (.bool (!PyData.eqv x y)))
def rEqA (K : PySem.W.Frag) : R2 := fun x y H Q => rEq x y H Q ∨ rEqD K x y H Q
def rNeA (K : PySem.W.Frag) : R2 := fun x y H Q => rNe x y H Q ∨ rNeD K x y H Q
theorem opr_eq (hu : X.A.units + 64 < cLine) : OpR X (compareOp .Eq) (rEqA X.K) := op_eq.or (op_eqD hu)
theorem opr_ne (hu : X.A.units + 64 < cLine) : OpR X (compareOp .NotEq) (rNeA X.K) := op_ne.or (op_neD hu)
theorem dec_of {α β : Type} [DecidableEq α] [DecidableEq β] {f : α → β} (hf : ∀ a b, f a = f b → a = b) (a b : α) : decide (f a = f b) = decide (a = b) := by
  by_cases e : a = b
  · subst e; simp
  · rw [decide_eq_false e, decide_eq_false fun z => e (hf _ _ z)]
theorem o2_eq : O2 K eqD (rEqA K) := by
  refine ⟨fun G H v u x y P Q s hx hy h k => ?_⟩
  unfold eqD at h
  split at h
  · rw [hx.int, hy.int]
    refine .inl ⟨rfl, ?_⟩
    rw [dec_of (fun a b e => V.int.inj e)]
    exact k _ _ G H h (Gr.refl s) (.bl _)
  · rw [hx.str, hy.str]
    refine .inl ⟨rfl, ?_⟩
    rw [dec_of (fun a b e => V.str.inj e)]
    exact k _ _ G H h (Gr.refl s) (.bl _)
  · rw [hx.bool, hy.bool]
    refine .inl ⟨rfl, ?_⟩
    rw [dec_of (fun a b e => V.bl.inj e)]
    exact k _ _ G H h (Gr.refl s) (.bl _)
  · exact .inr ⟨_, _, hx.dp s, hy.dp s, h.1, h.2.1, k _ _ G H h.2.2 (Gr.refl s) (.bl _)⟩
theorem o2_ne : O2 K neD (rNeA K) := by
  refine ⟨fun G H v u x y P Q s hx hy h k => ?_⟩
  unfold neD at h
  split at h
  · rw [hx.int, hy.int]
    refine .inl ⟨rfl, ?_⟩
    rw [dec_of (fun a b e => V.int.inj e)]
    exact k _ _ G H h (Gr.refl s) (.bl _)
  · rw [hx.str, hy.str]
    refine .inl ⟨rfl, ?_⟩
    rw [dec_of (fun a b e => V.str.inj e)]
    exact k _ _ G H h (Gr.refl s) (.bl _)
  · rw [hx.bool, hy.bool]
    refine .inl ⟨rfl, ?_⟩
    rw [dec_of (fun a b e => V.bl.inj e)]
    exact k _ _ G H h (Gr.refl s) (.bl _)
  · exact .inr ⟨_, _, hx.dp s, hy.dp s, h.1, h.2.1, k _ _ G H h.2.2 (Gr.refl s) (.bl _)⟩
/-! ### in, not in -/
def rInT (K : PySem.W.Frag) (neg : Bool) : R2 := fun x y H Q => ∃ d ds, Dp K H x d ∧ Dp K H y (.tuple ds) ∧ SeqAt.shaped d = true ∧ SeqAt.shaped (.tuple ds) = true ∧ Q (.bl (if neg then !ds.any (fun z => PyData.eqv z d) else ds.any fun z => PyData.eqv z d)) H
theorem opr_inT (hu : X.A.units + 65 < cLine) : OpR X (compareOp .In) (rInT X.K false) := by
  intro pins s σ H x y v u Q I rx ry h
  obtain ⟨d, ds, hd, he, sd, se, q⟩ := h
  obtain ⟨as, r1⟩ := Dp.reads I d x v hd rx
  obtain ⟨bs, r2⟩ := Dp.reads I (.tuple ds) y u he ry
  exact SeqAt.in_tuple_reads r2 r1 (SeqAt.canLay_of_shaped se) (SeqAt.canLay_of_shaped sd) (room_in_shaped sd hu) ⟨.bl _, H, I, rfl, q⟩
theorem opr_notInT (hu : X.A.units + 65 < cLine) : OpR X (compareOp .NotIn) (rInT X.K true) := by
  intro pins s σ H x y v u Q I rx ry h
  obtain ⟨d, ds, hd, he, sd, se, q⟩ := h
  obtain ⟨as, r1⟩ := Dp.reads I d x v hd rx
  obtain ⟨bs, r2⟩ := Dp.reads I (.tuple ds) y u he ry
  exact SeqAt.notIn_tuple_reads r2 r1 (SeqAt.canLay_of_shaped se) (SeqAt.canLay_of_shaped sd) (room_in_shaped sd hu) ⟨.bl _, H, I, rfl, q⟩
def rInA (K : PySem.W.Frag) : R2 := fun x y H Q => (rInD K x y H Q ∨ rInT K false x y H Q) ∨ ∃ i j, x = .str i ∧ y = .str j ∧ Q (.bl (!(Builtin.Str.occurrences j i 0 j.length 1).isEmpty)) H
def rNotInA (K : PySem.W.Frag) : R2 := fun x y H Q => (rNotInD K x y H Q ∨ rInT K true x y H Q) ∨ ∃ i j, x = .str i ∧ y = .str j ∧ Q (.bl (!(!(Builtin.Str.occurrences j i 0 j.length 1).isEmpty))) H
theorem opr_in (hu : X.A.units + 65 < cLine) : OpR X (compareOp .In) (rInA X.K) := ((op_inD hu).or (opr_inT hu)).or op_in_str
theorem opr_notIn (hu : X.A.units + 65 < cLine) : OpR X (compareOp .NotIn) (rNotInA X.K) := ((op_notInD hu).or (opr_notInT hu)).or op_notin_str
def inB (x : D) (ds : List D) : Bool := ds.any fun z => PyData.eqv z x
def inStr (i j : Str) : Bool := !(Builtin.Str.occurrences j i 0 j.length 1).isEmpty
@[irreducible] def inD (neg : Bool) (x y : D) (P : R → Prop) : Prop := match y with
  | .list ds => okD x ∧ okD (.list ds) ∧ P (.val (.bool (if neg then !inB x ds else inB x ds)))
  | .tuple ds => okD x ∧ okD (.tuple ds) ∧ P (.val (.bool (if neg then !inB x ds else inB x ds)))
  | .str j => match x with
    | .str i => P (.val (.bool (if neg then !inStr i j else inStr i j)))
    | _ => False
  | _ => False
theorem o2_in : O2 K (inD false) (rInA K) := by
  refine ⟨fun G H v u x y P Q s hx hy h k => ?_⟩
  unfold inD at h
  split at h
  · exact .inl (.inl ⟨_, _, hx.dp s, hy.dp s, h.1, h.2.1, k _ _ G H h.2.2 (Gr.refl s) (.bl _)⟩)
  · exact .inl (.inr ⟨_, _, hx.dp s, hy.dp s, h.1, h.2.1, k _ _ G H h.2.2 (Gr.refl s) (.bl _)⟩)
  · split at h
    · rw [hx.str, hy.str]
      exact .inr ⟨_, _, rfl, rfl, k _ _ G H h (Gr.refl s) (.bl _)⟩
    · exact h.elim
  · exact h.elim
theorem o2_notIn : O2 K (inD true) (rNotInA K) := by
  refine ⟨fun G H v u x y P Q s hx hy h k => ?_⟩
  unfold inD at h
  split at h
  · exact .inl (.inl ⟨_, _, hx.dp s, hy.dp s, h.1, h.2.1, k _ _ G H h.2.2 (Gr.refl s) (.bl _)⟩)
  · exact .inl (.inr ⟨_, _, hx.dp s, hy.dp s, h.1, h.2.1, k _ _ G H h.2.2 (Gr.refl s) (.bl _)⟩)
  · split at h
    · rw [hx.str, hy.str]
      exact .inr ⟨_, _, rfl, rfl, k _ _ G H h (Gr.refl s) (.bl _)⟩
    · exact h.elim
  · exact h.elim
/-! ### is None -/
def isN : D → Bool
  | .none => true
  | _ => false
def isND (neg : Bool) (x y : D) (P : R → Prop) : Prop := match y with
  | .none => P (.val (.bool (if neg then !isN x else isN x)))
  | _ => False
theorem isN_pk {v : V} {x : D} (h : PK K G H v x) : decide (v = .non) = isN x := by
  cases x with
  | none => rw [h.none]; rfl
  | int i => rw [h.int]; rfl
  | bool i => rw [h.bool]; rfl
  | str i => rw [h.str]; rfl
  | list xs =>
    rcases h with h | ⟨a, vs, ys, rfl, e, h1, h2⟩
    · cases h
      rfl
    · rfl
  | tuple xs =>
    rcases h with h | ⟨a, vs, ys, rfl, e, h1, h2⟩
    · cases h
      rfl
    · rfl
  | dict kv => exact h.nodict.elim
theorem o2_is : O2 K (isND false) (fun x y H Q => y = .non ∧ Q (.bl (decide (x = .non))) H) := by
  refine ⟨fun G H v u x y P Q s hx hy h k => ?_⟩
  unfold isND at h
  split at h
  · refine ⟨hy.none, ?_⟩
    rw [isN_pk hx]
    exact k _ _ G H h (Gr.refl s) (.bl _)
  · exact h.elim
theorem o2_isNot : O2 K (isND true) (fun x y H Q => y = .non ∧ Q (.bl (!decide (x = .non))) H) := by
  refine ⟨fun G H v u x y P Q s hx hy h k => ?_⟩
  unfold isND at h
  split at h
  · refine ⟨hy.none, ?_⟩
    rw [isN_pk hx]
    exact k _ _ G H h (Gr.refl s) (.bl _)
  · exact h.elim
/-! ### x[i] -/
@[irreducible] def ixD (x y : D) (P : R → Prop) : Prop := match x, y with
  | .list xs, .int i => bnd (atI xs i) fun d => P (.val d)
  | .tuple xs, .int i => bnd (atI xs i) fun d => P (.val d)
  | .str z, .int i => z.length ≤ sizeLine ∧ bnd (atI z.cps.toList i) fun c => P (.val (.str ⟨#[c]⟩))
  | _, _ => False
theorem dpa_at {vs : List V} {ds : List D} {i : Int} {d : D} (h : DpAll K G vs ds) (e : atI ds i = some d) : ∃ v, atI vs i = some v ∧ Dp K G v d := by
  unfold atI at e ⊢
  rw [dpa_len h]
  cases z : ixN ds.length i with
  | none => rw [z] at e; cases e
  | some j =>
    rw [z] at e
    exact dpa_get h e
theorem o2_ix : O2 K ixD (rIx K) := by
  refine ⟨fun G H v u x y P Q s hx hy h k => ?_⟩
  unfold ixD at h
  split at h
  · obtain ⟨a, vs, rfl, h1, h2⟩ := hx.list s
    obtain ⟨d, e, h3⟩ := bnd_inv h
    obtain ⟨w, ew, dw⟩ := dpa_at h2 e
    exact .inl ⟨a, vs, _, w, rfl, hy.int, h1, ew, k _ _ G H h3 (Gr.refl s) dw⟩
  · obtain ⟨a, vs, rfl, h1, h2⟩ := hx.tuple s
    obtain ⟨d, e, h3⟩ := bnd_inv h
    obtain ⟨w, ew, dw⟩ := dpa_at h2 e
    exact .inr (.inl ⟨a, vs, _, w, rfl, hy.int, h1, ew, k _ _ G H h3 (Gr.refl s) dw⟩)
  · obtain ⟨c, e, h3⟩ := bnd_inv h.2
    exact .inr (.inr ⟨_, _, c, hx.str, hy.int, h.1, e, k _ _ G H h3 (Gr.refl s) (.str _)⟩)
  · exact h.elim
/-! ### len, abs, min, max, int, str, tuple, list, repr -/
def lenD (ds : List D) (P : R → Prop) : Prop := match ds with
  | [.list xs] => P (.val (.int xs.length))
  | [.tuple xs] => P (.val (.int xs.length))
  | [.str z] => z.length ≤ sizeLine ∧ P (.val (.int z.length))
  | _ => False
def rLenA (K : PySem.W.Frag) : List V → Hp → VK → Prop := fun xs H Q => (∃ p ys, xs = [.ref p] ∧ (SqL K H p ys ∨ SqT K H p ys) ∧ Q (.int ys.length) H) ∨ ∃ z, xs = [.str z] ∧ z.length ≤ sizeLine ∧ Q (.int z.length) H
theorem cr_len : CallR X (.builtin "len") (rLenA X.K) := call_len_seq.or call_len_str
theorem pks1 {vs : List V} {d : D} (h : PKs K G H vs [d]) : ∃ v, vs = [v] ∧ PK K G H v d := by
  cases h with
  | cons a b =>
    cases b
    exact ⟨_, rfl, a⟩
theorem pks2 {vs : List V} {d e : D} (h : PKs K G H vs [d, e]) : ∃ v u, vs = [v, u] ∧ PK K G H v d ∧ PK K G H u e := by
  cases h with
  | cons a b =>
    obtain ⟨u, rfl, b2⟩ := pks1 b
    exact ⟨_, u, rfl, a, b2⟩
theorem on_len : ON K lenD (rLenA K) := by
  refine ⟨fun G H vs ds P Q s hv h k => ?_⟩
  unfold lenD at h
  split at h
  · obtain ⟨v, rfl, hx⟩ := pks1 hv
    obtain ⟨a, vs, rfl, h1, h2⟩ := hx.list s
    exact .inl ⟨a, vs, rfl, .inl h1, by rw [dpa_len h2]; exact k _ _ G H h (Gr.refl s) (.int _)⟩
  · obtain ⟨v, rfl, hx⟩ := pks1 hv
    obtain ⟨a, vs, rfl, h1, h2⟩ := hx.tuple s
    exact .inl ⟨a, vs, rfl, .inr h1, by rw [dpa_len h2]; exact k _ _ G H h (Gr.refl s) (.int _)⟩
  · obtain ⟨v, rfl, hx⟩ := pks1 hv
    rw [hx.str]
    exact .inr ⟨_, rfl, h.1, k _ _ G H h.2 (Gr.refl s) (.int _)⟩
  · exact h.elim
def absD (ds : List D) (P : R → Prop) : Prop := match ds with
  | [.int i] => P (.val (.int (if i < 0 then -i else i)))
  | _ => False
theorem on_abs : ON K absD (fun xs H Q => ∃ i, xs = [.int i] ∧ Q (.int (if i < 0 then -i else i)) H) := by
  refine ⟨fun G H vs ds P Q s hv h k => ?_⟩
  unfold absD at h
  split at h
  · obtain ⟨v, rfl, hx⟩ := pks1 hv
    rw [hx.int]
    exact ⟨_, rfl, k _ _ G H h (Gr.refl s) (.int _)⟩
  · exact h.elim
def min2D (ds : List D) (P : R → Prop) : Prop := match ds with
  | [.int i, .int j] => P (.val (.int (if j < i then j else i)))
  | _ => False
def max2D (ds : List D) (P : R → Prop) : Prop := match ds with
  | [.int i, .int j] => P (.val (.int (if j > i then j else i)))
  | _ => False
theorem on_min2 : ON K min2D (fun xs H Q => ∃ i j, xs = [.int i, .int j] ∧ Q (.int (if j < i then j else i)) H) := by
  refine ⟨fun G H vs ds P Q s hv h k => ?_⟩
  unfold min2D at h
  split at h
  · obtain ⟨v, u, rfl, hx, hy⟩ := pks2 hv
    rw [hx.int, hy.int]
    exact ⟨_, _, rfl, k _ _ G H h (Gr.refl s) (.int _)⟩
  · exact h.elim
theorem on_max2 : ON K max2D (fun xs H Q => ∃ i j, xs = [.int i, .int j] ∧ Q (.int (if j > i then j else i)) H) := by
  refine ⟨fun G H vs ds P Q s hv h k => ?_⟩
  unfold max2D at h
  split at h
  · obtain ⟨v, u, rfl, hx, hy⟩ := pks2 hv
    rw [hx.int, hy.int]
    exact ⟨_, _, rfl, k _ _ G H h (Gr.refl s) (.int _)⟩
  · exact h.elim
def toIntD (ds : List D) (P : R → Prop) : Prop := match ds with
  | [.int i] => P (.val (.int i))
  | [.bool b] => P (.val (.int (if b then 1 else 0)))
  | [.str a] => a.length ≤ 640 ∧ bnd (PySem.intText? a) fun n => P (.val (.int n))
  | _ => False
def rToInt : List V → Hp → VK → Prop := fun xs H Q => ((∃ i, xs = [.int i] ∧ Q (.int i) H) ∨ ∃ k, xs = [.bl k] ∧ Q (.int (if k then 1 else 0)) H) ∨ ∃ a n, xs = [.str a] ∧ PySem.intText? a = some n ∧ a.length ≤ 640 ∧ Q (.int n) H
theorem cr_toInt : CallR X (.type "int") rToInt := call_int1.or call_int_str
theorem on_toInt : ON K toIntD rToInt := by
  refine ⟨fun G H vs ds P Q s hv h k => ?_⟩
  unfold toIntD at h
  split at h
  · obtain ⟨v, rfl, hx⟩ := pks1 hv
    rw [hx.int]
    exact .inl (.inl ⟨_, rfl, k _ _ G H h (Gr.refl s) (.int _)⟩)
  · obtain ⟨v, rfl, hx⟩ := pks1 hv
    rw [hx.bool]
    exact .inl (.inr ⟨_, rfl, k _ _ G H h (Gr.refl s) (.int _)⟩)
  · obtain ⟨v, rfl, hx⟩ := pks1 hv
    rw [hx.str]
    obtain ⟨n, e, h2⟩ := bnd_inv h.2
    exact .inr ⟨_, n, rfl, e, h.1, k _ _ G H h2 (Gr.refl s) (.int _)⟩
  · exact h.elim
def toStrD (ds : List D) (P : R → Prop) : Prop := match ds with
  | [.int i] => i.natAbs.log2 < 1920 ∧ P (.val (.str (toString i)))
  | _ => False
theorem on_toStr : ON K toStrD (fun xs H Q => ∃ i, xs = [.int i] ∧ i.natAbs.log2 < 1920 ∧ Q (.str (toString i)) H) := by
  refine ⟨fun G H vs ds P Q s hv h k => ?_⟩
  unfold toStrD at h
  split at h
  · obtain ⟨v, rfl, hx⟩ := pks1 hv
    rw [hx.int]
    exact ⟨_, rfl, h.1, k _ _ G H h.2 (Gr.refl s) (.str _)⟩
  · exact h.elim
def toTupD (ds : List D) (P : R → Prop) : Prop := match ds with
  | [.list xs] => P (.val (.tuple xs))
  | [.tuple xs] => P (.val (.tuple xs))
  | _ => False
theorem on_toTup : ON K toTupD (fun xs H Q => ∃ p ys, xs = [.ref p] ∧ ((SqL K H p ys ∧ ∀ l, H l = none → Q (.ref l) (upd H l (.tup ys))) ∨ (SqT K H p ys ∧ Q (.ref p) H))) := by
  refine ⟨fun G H vs ds P Q s hv h k => ?_⟩
  unfold toTupD at h
  split at h
  · obtain ⟨v, rfl, hx⟩ := pks1 hv
    obtain ⟨a, vs, rfl, h1, h2⟩ := hx.list s
    refine ⟨a, vs, rfl, .inl ⟨h1, fun l hl => ?_⟩⟩
    have g := Gr.new (o := .tup vs) s hl
    exact k _ _ _ _ h g (.tup (.inl (.inl upd_same)) (g.g.dpa h2))
  · obtain ⟨v, rfl, hx⟩ := pks1 hv
    obtain ⟨a, vs, rfl, h1, h2⟩ := hx.tuple s
    refine ⟨a, vs, rfl, .inr ⟨h1, k _ _ G H h (Gr.refl s) ?_⟩⟩
    rcases hx with hx | ⟨_, _, _, _, e, _⟩
    · exact hx
    · cases e
  · exact h.elim
def toListD (ds : List D) (P : R → Prop) : Prop := match ds with
  | [.list xs] => P (.fr xs)
  | [.tuple xs] => P (.fr xs)
  | _ => False
theorem on_toList : ON K toListD (fun xs H Q => ∃ p ys, xs = [.ref p] ∧ (SqL K H p ys ∨ SqT K H p ys) ∧ ∀ l, H l = none → Q (.ref l) (upd H l (.lst ys))) := by
  refine ⟨fun G H vs ds P Q s hv h k => ?_⟩
  unfold toListD at h
  split at h
  · obtain ⟨v, rfl, hx⟩ := pks1 hv
    obtain ⟨a, vs, rfl, h1, h2⟩ := hx.list s
    exact ⟨a, vs, rfl, .inl h1, fun l hl => k _ _ G _ h (Gr.own s hl) ⟨l, vs, rfl, upd_same, s.back hl, h2, hl⟩⟩
  · obtain ⟨v, rfl, hx⟩ := pks1 hv
    obtain ⟨a, vs, rfl, h1, h2⟩ := hx.tuple s
    exact ⟨a, vs, rfl, .inr h1, fun l hl => k _ _ G _ h (Gr.own s hl) ⟨l, vs, rfl, upd_same, s.back hl, h2, hl⟩⟩
  · exact h.elim
/-- repr(x) of data of any depth -/
def rReprD (K : PySem.W.Frag) : List V → Hp → VK → Prop := fun xs H Q => ∃ v d, xs = [v] ∧ Dp K H v d ∧ d.showable = true ∧ d.depth ≤ 64 ∧ d.shown.length ≤ sizeLine ∧ d.hasDict = false ∧ Q (.str d.shown) H
theorem cr_repr (hg : X.A.guards = some []) (hu : X.A.units + 65 < cLine) : CallR X (.builtin "repr") (rReprD X.K) := by
  intro pins s σ H xs us Q I r h
  obtain ⟨v, d, rfl, hd, h1, h2, h3, h4, q⟩ := h
  obtain ⟨u, rfl, ru⟩ := vals1 r
  have fin : ∀ (h' : Heap) (t : Tok) (tk : Nat), (∀ b o, s.heap.get? b = some o → h'.get? b = some o) → EP X pins σ Q (.str d.shown t) { s with heap := h', toks := tk } := fun h' t tk kk => ⟨.str d.shown, H, I.kept (t' := tk) kk, ⟨t, rfl⟩, q⟩
  have tall : ∀ a, v = .ref a → wpAny (model X.prog X.w) X.A (PySem.call (.builtin "repr") [u]) (EP X pins σ Q) X.xe s := fun a e => by
    subst e
    cases ru
    obtain ⟨as, rd⟩ := Dp.reads I d (.ref a) _ hd rfl
    exact repr_of_reads' rd h1 (fun z => by rw [h4] at z; cases z) hg (by omega) (fun _ _ e => e) (fun h' t tk kk => fin h' t tk kk) h3
  cases hd with
  | non =>
    cases ru
    exact PySem.P.repr_of_none (by have := fin s.heap s.toks (s.toks + 1) fun _ _ e => e; simpa only [PyData.shown] using this)
  | bl b =>
    cases ru
    exact PySem.P.repr_of_bool (by have := fin s.heap s.toks (s.toks + 1) fun _ _ e => e; simpa only [PyData.shown] using this)
  | int i =>
    obtain ⟨t, rfl⟩ := ru
    exact PySem.P.repr_of_int (by simpa [PyData.showable] using h1) (by have := fin s.heap s.toks (s.toks + 1) fun _ _ e => e; simpa only [PyData.shown] using this)
  | str x =>
    obtain ⟨t, rfl⟩ := ru
    exact PySem.P.repr_of_str (by have := fin s.heap s.toks (s.toks + 1) fun _ _ e => e; simpa only [PyData.shown] using this) (by simpa only [PyData.shown] using h3)
  | lst hs ha => exact tall _ rfl
  | tup hs ha => exact tall _ rfl
def okR (d : D) : Prop := d.showable = true ∧ d.depth ≤ 64 ∧ d.shown.length ≤ sizeLine ∧ d.hasDict = false
def reprD (ds : List D) (P : R → Prop) : Prop := match ds with
  | [d] => okR d ∧ P (.val (.str d.shown))
  | _ => False
theorem on_repr : ON K reprD (rReprD K) := by
  refine ⟨fun G H vs ds P Q s hv h k => ?_⟩
  unfold reprD at h
  split at h
  · obtain ⟨v, rfl, hx⟩ := pks1 hv
    obtain ⟨⟨h1, h2, h3, h4⟩, h5⟩ := h
    exact ⟨v, _, rfl, hx.dp s, h1, h2, h3, h4, k _ _ G H h5 (Gr.refl s) (.str _)⟩
  · exact h.elim
/-! ### methods of lists -/
def appD (xs ds : List D) (P : R → List D → Prop) : Prop := match ds with
  | [d] => xs.length < sizeLine ∧ P (.val .none) (xs ++ [d])
  | _ => False
theorem dpa1 {vs : List V} {d : D} (h : DpAll K G vs [d]) : ∃ v, vs = [v] ∧ Dp K G v d := by
  cases h with
  | cons a b =>
    cases b
    exact ⟨_, rfl, a⟩
theorem dpa2 {vs : List V} {d e : D} (h : DpAll K G vs [d, e]) : ∃ v u, vs = [v, u] ∧ Dp K G v d ∧ Dp K G u e := by
  cases h with
  | cons a b =>
    obtain ⟨u, rfl, b2⟩ := dpa1 b
    exact ⟨_, u, rfl, a, b2⟩
theorem dp_int {v : V} {i : Int} (h : Dp K G v (.int i)) : v = .int i := by cases h; rfl
theorem ow_app : OW K appD rAppend := by
  refine ⟨fun G H a us xs vs ds P Q s ha ga dx dd h k => ?_⟩
  unfold appD at h
  split at h
  · obtain ⟨v, rfl, dv⟩ := dpa1 dd
    exact ⟨a, us, v, rfl, rfl, ha, by rw [dpa_len dx]; exact h.1, k _ _ _ _ G _ h.2 (Gx.upd s ga) upd_same ga (dpa_app dx (dpa_one dv)) .non⟩
  · exact h.elim
def popD (xs ds : List D) (P : R → List D → Prop) : Prop := match ds with
  | [] => bnd (xs[xs.length - 1]?) fun d => P (.val d) xs.dropLast
  | _ => False
theorem ow_pop : OW K popD rPop := by
  refine ⟨fun G H a us xs vs ds P Q s ha ga dx dd h k => ?_⟩
  unfold popD at h
  split at h
  · cases dd
    obtain ⟨d, e, h2⟩ := bnd_inv h
    obtain ⟨v, ev, dv⟩ := dpa_get dx e
    exact ⟨a, us, v, rfl, rfl, ha, by rw [dpa_len dx]; exact ev, k _ _ _ _ G _ h2 (Gx.upd s ga) upd_same ga (dpa_dropLast dx) dv⟩
  · exact h.elim
def popAtD (xs ds : List D) (P : R → List D → Prop) : Prop := match ds with
  | [.int i] => -(2 ^ 63) ≤ i ∧ i < 2 ^ 63 ∧ bnd (seqIndex? i xs.length) fun m => bnd (xs[m]?) fun d => P (.val d) (xs.eraseIdx m)
  | _ => False
theorem ow_popAt : OW K popAtD rPopAt := by
  refine ⟨fun G H a us xs vs ds P Q s ha ga dx dd h k => ?_⟩
  unfold popAtD at h
  split at h
  · obtain ⟨v, rfl, dv⟩ := dpa1 dd
    rw [dp_int dv]
    obtain ⟨i1, i2, h2⟩ := h
    obtain ⟨m, em, h3⟩ := bnd_inv h2
    obtain ⟨d, ed, h4⟩ := bnd_inv h3
    obtain ⟨w, ew, dw⟩ := dpa_get dx ed
    exact ⟨a, us, _, m, w, rfl, rfl, ha, i1, i2, by rw [dpa_len dx]; exact em, ew, k _ _ _ _ G _ h4 (Gx.upd s ga) upd_same ga (dpa_erase m dx) dw⟩
  · exact h.elim
def revD (xs ds : List D) (P : R → List D → Prop) : Prop := match ds with
  | [] => P (.val .none) xs.reverse
  | _ => False
theorem ow_rev : OW K revD rReverse := by
  refine ⟨fun G H a us xs vs ds P Q s ha ga dx dd h k => ?_⟩
  unfold revD at h
  split at h
  · cases dd
    exact ⟨a, us, rfl, rfl, ha, k _ _ _ _ G _ h (Gx.upd s ga) upd_same ga (dpa_rev dx) .non⟩
  · exact h.elim
def insD (xs ds : List D) (P : R → List D → Prop) : Prop := match ds with
  | [.int i, d] => xs.length < sizeLine ∧ 0 ≤ i ∧ i < 2 ^ 63 ∧ P (.val .none) (xs.take i.toNat ++ [d] ++ xs.drop i.toNat)
  | _ => False
theorem ow_ins : OW K insD (fun x vs H Q => ∃ (l : Addr) (xs : List V) (i : Int) (y : V), x = .ref l ∧ vs = [.int i, y] ∧ H l = some (.lst xs) ∧ xs.length < sizeLine ∧ 0 ≤ i ∧ i < 2 ^ 63 ∧ Q .non (upd H l (.lst (xs.take i.toNat ++ [y] ++ xs.drop i.toNat)))) := by
  refine ⟨fun G H a us xs vs ds P Q s ha ga dx dd h k => ?_⟩
  unfold insD at h
  split at h
  · obtain ⟨v, u, rfl, dv, du⟩ := dpa2 dd
    rw [dp_int dv]
    exact ⟨a, us, _, u, rfl, rfl, ha, by rw [dpa_len dx]; exact h.1, h.2.1, h.2.2.1, k _ _ _ _ G _ h.2.2.2 (Gx.upd s ga) upd_same ga (dpa_app (dpa_app (dpa_take _ dx) (dpa_one du)) (dpa_drop _ dx)) .non⟩
  · exact h.elim
/-! ### sep.join(..) -/
def strs? : List D → Option (List Str)
  | [] => some []
  | .str z :: ds => (strs? ds).map fun zs => z :: zs
  | _ => none
theorem strs_v : ∀ {ds : List D} {vs : List V} {zs : List Str}, DpAll K G vs ds → strs? ds = some zs → vs = zs.map V.str
  | [], _, _, h, e => by
    cases h
    cases e
    rfl
  | .str z :: ds, _, _, h, e => by
    cases h with
    | cons a b =>
      cases a
      simp only [strs?] at e
      cases h2 : strs? ds with
      | none => rw [h2] at e; cases e
      | some ws =>
        rw [h2] at e
        cases e
        rw [strs_v b h2]
        rfl
  | .none :: _, _, _, _, e => by cases e
  | .bool _ :: _, _, _, _, e => by cases e
  | .int _ :: _, _, _, _, e => by cases e
  | .list _ :: _, _, _, _, e => by cases e
  | .tuple _ :: _, _, _, _, e => by cases e
  | .dict _ :: _, _, _, _, e => by cases e
@[irreducible] def joinD (x : D) (ds : List D) (P : R → Prop) : Prop := match x, ds with
  | .str a, [.list xs] => bnd (strs? xs) fun ys => (ys.map (·.length)).sum + ys.length * a.length ≤ 16777216 ∧ P (.val (.str (Txt.join a ys)))
  | .str a, [.tuple xs] => bnd (strs? xs) fun ys => (ys.map (·.length)).sum + ys.length * a.length ≤ 16777216 ∧ P (.val (.str (Txt.join a ys)))
  | _, _ => False
theorem om_join : OM K joinD (fun x xs H Q => ∃ a p, ∃ ys : List Str, x = .str a ∧ xs = [.ref p] ∧ (SqL K H p (ys.map V.str) ∨ SqT K H p (ys.map V.str)) ∧ (ys.map (·.length)).sum + ys.length * a.length ≤ 16777216 ∧ Q (.str (Txt.join a ys)) H) := by
  refine ⟨fun G H v x vs ds P Q s hx hv h k => ?_⟩
  unfold joinD at h
  split at h
  · obtain ⟨u, rfl, hy⟩ := pks1 hv
    obtain ⟨p, us, rfl, h1, h2⟩ := hy.list s
    obtain ⟨ys, ey, h3, h4⟩ := bnd_inv h
    rw [strs_v h2 ey] at h1
    exact ⟨_, p, ys, hx.str, rfl, .inl h1, h3, k _ _ G H h4 (Gr.refl s) (.str _)⟩
  · obtain ⟨u, rfl, hy⟩ := pks1 hv
    obtain ⟨p, us, rfl, h1, h2⟩ := hy.tuple s
    obtain ⟨ys, ey, h3, h4⟩ := bnd_inv h
    rw [strs_v h2 ey] at h1
    exact ⟨_, p, ys, hx.str, rfl, .inr h1, h3, k _ _ G H h4 (Gr.refl s) (.str _)⟩
  · exact h.elim
def isStrD : D → Bool
  | .str _ => true
  | _ => false
theorem ty_str : ∀ (G H : Hp) v x, Ex G H → PK K G H v x → isStrD x = true → tyV K "str" v H := fun G H v x s h e => by
  cases x with
  | str z =>
    rw [h.str]
    rfl
  | _ => cases e
/-! ### x[a:b] -/
abbrev TOD := List Sl → (Option Int → List Sl → Prop) → Prop
def TofO (K : PySem.W.Frag) (c : C0) (ir : TOD) : TO := fun σ H Q => ∃ e G P, SR K c e G σ H ∧ ir e P ∧ ∀ o e' G' H', P o e' → Ex G G' → SR K c e' G' σ H' → Q o H'
structure POD (X : Cx) (io : List Nat) (x : Option Expr) (ir : TOD) : Prop where
  po : ∀ c : C0, c.ios = io → PO X x (TofO X.K c ir)
def doNo : TOD := fun e Q => Q none e
def doSo (ia : TED) : TOD := fun e Q => ia e fun r e1 => bnd (peek e1 r.fz) fun x => bnd (asI x) fun i => Q (some i) e1
theorem PO_imp {x : Option Expr} {t t' : TO} (h : PO X x t) (i : ∀ σ H Q, t' σ H Q → t σ H Q) : PO X x t' := ⟨fun pins s σ H Q I q => h.run pins s σ H Q I (i σ H Q q)⟩
variable {io : List Nat} {c : C0} {σ : L2.St}
theorem pod_no : POD X io none doNo := ⟨fun c hc => PO_imp po_none fun σ H Q ⟨e, G, P, S, h, k⟩ => k none e G H h Ex.refl S⟩
theorem pod_so {a : Expr} {ia : TED} (h : PD X io a ia) : POD X io (some a) (doSo ia) := ⟨fun c hc => PO_imp (po_some (h.pe c hc)) fun σ H Q ⟨e, G, P, S, h, k⟩ => by
  refine ⟨e, G, _, S, h, fun ra e1 x G1 H1 h1 ex1 S1 r1 => ?_⟩
  obtain ⟨G2, ex2, S2, p2⟩ := S1.fzp r1
  obtain ⟨dx, hx, h3⟩ := bnd_inv h1
  obtain ⟨i, hi, h4⟩ := bnd_inv h3
  exact ⟨i, asI_pk (S2.peekp p2 hx) hi, k _ e1 G2 H1 h4 (ex1.trans ex2) S2⟩⟩
def cutD (xs : List D) (lo hi : Option Int) : List D := (xs.drop (HT.sIx xs.length 0 lo)).take (HT.sIx xs.length xs.length hi - HT.sIx xs.length 0 lo)
@[irreducible] def slD (x : D) (lo hi : Option Int) (P : R → Prop) : Prop := match x with
  | .list xs => P (.fr (cutD xs lo hi))
  | .tuple xs => ¬ (HT.sIx xs.length 0 lo = 0 ∧ HT.sIx xs.length xs.length hi = xs.length) ∧ P (.val (.tuple (cutD xs lo hi)))
  | .str z => z.length ≤ sizeLine ∧ P (.val (.str (cutS z lo hi)))
  | _ => False
structure HS (x : D) (lo hi : Option Int) (P : R → Prop) : Prop where
  go : slD x lo hi P
def dSlice (ia : TED) (lo hi : TOD) : TED := fun e Q => ia e fun ra e1 => lo e1 fun l e2 => hi e2 fun h e3 => bnd (peek e3 ra.fz) fun x => HS x l h fun z => Q z e3
def rSlA (K : PySem.W.Frag) : V → Option Int → Option Int → Hp → VK → Prop := fun x lo hi H Q => (rSlL K x lo hi H Q ∨ rSlT K x lo hi H Q) ∨ rSlS x lo hi H Q
theorem tof_slice {ia : TED} {lo hi : TOD} {Q : VK} {H : Hp} (h : Tof K c (dSlice ia lo hi) σ H Q) : tSl (rSlA K) (Tof K c ia) (TofO K c lo) (TofO K c hi) σ H Q := by
  obtain ⟨e, G, P, S, h, k⟩ := h
  refine ⟨e, G, _, S, h, fun ra e1 x G1 H1 h1 ex1 S1 r1 => ?_⟩
  obtain ⟨G1', ex1', S1', p1⟩ := S1.fzp r1
  refine ⟨e1, G1', _, S1', h1, fun l e2 G2 H2 h2 ex2 S2 => ?_⟩
  refine ⟨e2, G2, _, S2, h2, fun u e3 G3 H3 h3 ex3 S3 => ?_⟩
  obtain ⟨dx, hx, h4⟩ := bnd_inv h3
  have pk := S3.peekp (p1.ex (ex2.trans ex3)) hx
  have exA := ((ex1.trans ex1').trans ex2).trans ex3
  replace h4 := h4.go
  unfold slD at h4
  split at h4
  · obtain ⟨a, vs, rfl, h5, h6⟩ := pk.list S3.sub
    refine .inl (.inl ⟨a, vs, rfl, h5, fun p hp => ?_⟩)
    have el := dpa_len h6
    have g := Gr.own (o := .lst (cutV vs l u)) S3.sub hp
    refine k _ e3 (.ref p) _ _ h4 (exA.trans g.g) (S3.grow g) (S3.rn (r := .fr _) ⟨p, _, rfl, upd_same, S3.sub.back hp, ?_, hp⟩)
    unfold cutD cutV
    rw [el]
    exact dpa_take _ (dpa_drop _ h6)
  · rename_i xs
    obtain ⟨a, vs, rfl, h5, h6⟩ := pk.tuple S3.sub
    have el := dpa_len h6
    refine .inl (.inr ⟨a, vs, rfl, h5, by rw [el]; exact h4.1, fun p hp => ?_⟩)
    have g := Gr.new (o := .tup (cutV vs l u)) S3.sub hp
    have da : DpAll K G3 (cutV vs l u) (cutD xs l u) := by
      unfold cutD cutV
      rw [el]
      exact dpa_take _ (dpa_drop _ h6)
    exact k _ e3 (.ref p) _ _ h4.2 (exA.trans g.g) (S3.grow g) (.tup (.inl (.inl upd_same)) (g.g.dpa da))
  · exact .inr ⟨_, pk.str, h4.1, k _ e3 _ G3 H3 h4.2 exA S3 (.str _)⟩
  · exact h4.elim
theorem slr_any : SlR X (rSlA X.K) := (sl_list.or sl_tup).or sl_str
theorem pd_slice {e : Expr} {lo hi : Option Expr} {ie : TED} {tl th : TOD} {p2 pos : Pos} (he : PD X io e ie) (hl : POD X io lo tl) (hu : POD X io hi th) : PD X io (.Subscript e (.Slice lo hi none p2) pos) (dSlice ie tl th) :=
  ⟨fun c hc => PE_imp (pe_slice slr_any (he.pe c hc) (hl.po c hc) (hu.po c hc)) fun _ _ _ => tof_slice⟩
end
end HD


set_option Elab.async false
set_option linter.all false
set_option maxRecDepth 100000
set_option maxHeartbeats 4000000
namespace HD
open PySem PySem.Spec PyProof.Rows L2
section
variable {P : Program} {w : World} {K : PySem.W.Frag} {mg : Str → Option Value} {base : Heap} {CX : CXT} {k j : Nat} {x : Str} {ps : List Str} {sp : Sp}
/-- a def known by its name -/
structure Df (P : Program) (w : World) (K : PySem.W.Frag) (mg : Str → Option Value) (base : Heap) (CX : CXT) (k : Nat) (x : Str) (ps : List Str) (sp : Sp) : Prop where
  ex : ∃ f fd, mg x = some (.ref f) ∧ PySem.W.keepIn K (.ref f) = true ∧ Binds K fd ps [] ∧ FnG P w K mg base CX k f fd ps sp
theorem Df.mono (h : Df P w K mg base CX j x ps sp) (l : j ≤ k) : Df P w K mg base CX k x ps sp := by
  obtain ⟨f, fd, a, b, c, d⟩ := h.ex
  exact ⟨f, fd, a, b, c, d.mono l⟩
theorem Df.d {X : Cx} (h : Df X.prog X.w X.K X.mg X.base CX k x ps sp) : Dfn X CX k x ps sp := ⟨h.ex⟩
theorem df_mk {f : Addr} {fd : FuncData} (m : mg x = some (.ref f)) (kp : PySem.W.keepIn K (.ref f) = true) (b : Binds K fd ps []) (F : FnG P w K mg base CX k f fd ps sp) : Df P w K mg base CX k x ps sp := ⟨⟨f, fd, m, kp, b, F⟩⟩
theorem RoomG.u64 {A : Around} (h : RoomG k A) : A.units + 64 < cLine := h.r.units
theorem RoomG.u65 {A : Around} (h : RoomG k A) : A.units + 65 < cLine := by have := h.r.un; omega
end
section
variable {X : Cx} {io : List Nat} {c : C0} {x : Str} {p pos apos cpos : Pos} {e o : Expr} {es : List Expr} {ta : TAD} {ie : TED} {id T : String} {f : List D → (R → Prop) → Prop} {r : List V → Hp → VK → Prop}
theorem pd_b (hc : CallR X (.builtin id) r) (o : ON X.K f r) (hm : X.mg x = none) (ha : PAD X io (e :: es) ta) (hg : Gl X x := by rfl) (hv : bootBuiltins x = some (.builtin id) := by decide +kernel) (hn : x ≠ "__name__" := by decide) (hdb : (x == ("__debug__" : Str)) = false := by decide)
    (he : starEach (e :: es) X.env = (false, eval e X.env) :: starEach es X.env := by rfl) (hpl : (backTo pos (starEach es X.env)).any (·.1) = false := by rfl) : PD X io (.Call (.Name x p) (e :: es) [] pos) (dB f ta) :=
  ⟨fun c hcc => PE_imp (pe_callB hc hg hm hv (ha.pa c hcc) hn hdb he hpl) fun _ _ _ => tof_b o⟩
theorem pd_ty (hc : CallR X (.type T) r) (o : ON X.K f r) (hm : X.mg x = none) (ha : PAD X io (e :: es) ta) (hg : Gl X x := by rfl) (hv : bootBuiltins x = some (.type T) := by decide +kernel) (hn : x ≠ "__name__" := by decide) (hdb : (x == ("__debug__" : Str)) = false := by decide)
    (he : starEach (e :: es) X.env = (false, eval e X.env) :: starEach es X.env := by rfl) (hpl : (backTo pos (starEach es X.env)).any (·.1) = false := by rfl) : PD X io (.Call (.Name x p) (e :: es) [] pos) (dB f ta) :=
  ⟨fun c hcc => PE_imp (pe_callTy hc hg hm hv (ha.pa c hcc) hn hdb he hpl) fun _ _ _ => tof_b o⟩
variable {name : Str} {g : D → List D → (R → Prop) → Prop} {rm : V → List V → Hp → VK → Prop} {ty : D → Bool}
theorem pd_m (pa : PlainAttrs T) (slot : Slot T name id) (hty : typeOf (.builtin id) = pure (.type "method_descriptor")) (hm : MtR X id rm) (om : OM X.K g rm) (t : ∀ G H v x, Ex G H → PK X.K G H v x → ty x = true → tyV X.K T v H) (ho : PD X io o ie) (ha : PAD X io (e :: es) ta)
    (hbase : attributeBase o name X.env (eval o X.env) = eval o X.env := by rfl)
    (hfew : ((backTo cpos (starEach (e :: es) X.env)).all (fun x => !x.1) && (backToKw cpos (keywordEach [] X.env)).all (fun x => x.1.isSome) && decide ((e :: es).length + ([] : List Keyword).length + (if ([] : List Keyword).isEmpty then 0 else 1) < 30)) = true := by rfl)
    (hline : (apos.endLine == cpos.line) = true := by rfl) (hs : starEach (e :: es) X.env = (false, eval e X.env) :: starEach es X.env := by rfl) (hplain : (backTo cpos (starEach es X.env)).any (·.1) = false := by rfl) :
    PD X io (.Call (.Attribute o name apos) (e :: es) [] cpos) (dM g ty ie ta) :=
  ⟨fun c hcc => PE_imp (pe_bm pa slot hty hm (ho.pe c hcc) (ha.pa c hcc) hbase hfew hline hs hplain) fun _ _ _ => tof_m om t⟩
theorem pd_m0 (pa : PlainAttrs T) (slot : Slot T name id) (hty : typeOf (.builtin id) = pure (.type "method_descriptor")) (hm : MtR X id rm) (om : OM X.K g rm) (t : ∀ G H v x, Ex G H → PK X.K G H v x → ty x = true → tyV X.K T v H) (ho : PD X io o ie)
    (hbase : attributeBase o name X.env (eval o X.env) = eval o X.env := by rfl) (hline : (apos.endLine == cpos.line) = true := by rfl) : PD X io (.Call (.Attribute o name apos) [] [] cpos) (dM g ty ie dNil) :=
  ⟨fun c hcc => PE_imp (pe_bm0 pa slot hty hm (ho.pe c hcc) hbase hline) fun _ _ _ => tof_m0 om t⟩
variable {h : List D → List D → (R → List D → Prop) → Prop} {j : Nat}
theorem pd_mt (slot : Slot "list" name id) (hty : typeOf (.builtin id) = pure (.type "method_descriptor")) (hm : MtR X id rm) (ow : OW X.K h rm) (ho : PE X o (tVar j)) (ha : PAD X io (e :: es) ta)
    (hbase : attributeBase o name X.env (eval o X.env) = eval o X.env := by rfl)
    (hfew : ((backTo cpos (starEach (e :: es) X.env)).all (fun x => !x.1) && (backToKw cpos (keywordEach [] X.env)).all (fun x => x.1.isSome) && decide ((e :: es).length + ([] : List Keyword).length + (if ([] : List Keyword).isEmpty then 0 else 1) < 30)) = true := by rfl)
    (hline : (apos.endLine == cpos.line) = true := by rfl) (hs : starEach (e :: es) X.env = (false, eval e X.env) :: starEach es X.env := by rfl) (hplain : (backTo cpos (starEach es X.env)).any (·.1) = false := by rfl) :
    PD X io (.Call (.Attribute o name apos) (e :: es) [] cpos) (dMt h j ta) :=
  ⟨fun c hcc => PE_imp (pe_bm PySem.F.plainAttrs_list slot hty hm ho (ha.pa c hcc) hbase hfew hline hs hplain) fun _ _ _ => tof_mt ow⟩
theorem pd_mt0 (slot : Slot "list" name id) (hty : typeOf (.builtin id) = pure (.type "method_descriptor")) (hm : MtR X id rm) (ow : OW X.K h rm) (ho : PE X o (tVar j))
    (hbase : attributeBase o name X.env (eval o X.env) = eval o X.env := by rfl) (hline : (apos.endLine == cpos.line) = true := by rfl) : PD X io (.Call (.Attribute o name apos) [] [] cpos) (dMt h j dNil) :=
  ⟨fun c hcc => PE_imp (pe_bm0 PySem.F.plainAttrs_list slot hty hm ho hbase hline) fun _ _ _ => tof_mt0 ow⟩
/-! ### tests by truth -/
def truthD : D → Option Bool
  | .none => some false
  | .bool b => some b
  | .int i => some (i != 0)
  | .list xs => some (!xs.isEmpty)
  | .tuple xs => some (!xs.isEmpty)
  | _ => none
def dTru (ia : TED) : TTD := fun e Q => ia e fun ra e1 => bnd (peek e1 ra.fz) fun x => bnd (truthD x) fun b => Q b e1
end
end HD


set_option Elab.async false
set_option linter.all false
set_option maxRecDepth 100000
set_option maxHeartbeats 4000000
/-! HD8: loops by their words; data that may be compared and shown. -/
namespace HD
open PySem PySem.Spec PyProof.Rows L2
section
variable {g : TGD} {body : TSD} {De : DE} {t : TTD} {ir : TED} {vs : List Nat}
theorem loop_from (I : Nat → List Sl → Prop) (xs : List D)
    (hs : ∀ (i : Nat) x e (N : List Sl → Prop), xs[i]? = some x → I i e → (∀ e', I (i + 1) e' → N e') → g x e fun e1 => body { De with nx := N, ct := N, bk := De.nx } e1)
    (hd : ∀ e, I xs.length e → De.nx e) : ∀ (n i : Nat) (e : List Sl), n = xs.length - i → i ≤ xs.length → I i e → loopD g body De (xs.drop i) e
  | 0, i, e, hn, hi, h => by
    have e2 : i = xs.length := by omega
    subst e2
    rw [List.drop_eq_nil_of_le (Nat.le_refl _)]
    exact hd e h
  | n + 1, i, e, hn, hi, h => by
    have lt : i < xs.length := by omega
    rw [List.drop_eq_getElem_cons lt]
    exact hs i xs[i] e _ (List.getElem?_eq_getElem lt) h fun e' h' => loop_from I xs hs hd n (i + 1) e' (by omega) (by omega) h'
/-- a for by its word -/
theorem loop_inv (I : Nat → List Sl → Prop) {xs : List D} {e : List Sl} (h0 : I 0 e)
    (hs : ∀ (i : Nat) x e (N : List Sl → Prop), xs[i]? = some x → I i e → (∀ e', I (i + 1) e' → N e') → g x e fun e1 => body { De with nx := N, ct := N, bk := De.nx } e1)
    (hd : ∀ e, I xs.length e → De.nx e) : HF g body De xs e := by
  have := loop_from I xs hs hd xs.length 0 e (by omega) (by omega) h0
  exact ⟨this⟩
theorem lc_from {Q : List D → List Sl → Prop} (I : Nat → List D → List Sl → Prop) (xs : List D)
    (hs : ∀ (i : Nat) x acc e (N : List D → List Sl → Prop), xs[i]? = some x → I i acc e → (∀ acc' e', I (i + 1) acc' e' → N acc' e') → g x e fun e1 => t e1 fun k e2 => br k (ir e2 fun r e3 => bnd (leak r e3) fun p => N (acc ++ [p.1]) (wipeE p.2 vs)) (N acc (wipeE e2 vs)))
    (hd : ∀ acc e, I xs.length acc e → Q acc e) : ∀ (n i : Nat) (acc : List D) (e : List Sl), n = xs.length - i → i ≤ xs.length → I i acc e → loopLc g t ir vs Q (xs.drop i) acc e
  | 0, i, acc, e, hn, hi, h => by
    have e2 : i = xs.length := by omega
    subst e2
    rw [List.drop_eq_nil_of_le (Nat.le_refl _)]
    exact hd acc e h
  | n + 1, i, acc, e, hn, hi, h => by
    have lt : i < xs.length := by omega
    rw [List.drop_eq_getElem_cons lt]
    exact hs i xs[i] acc e (fun acc e => loopLc g t ir vs Q (xs.drop (i + 1)) acc e) (List.getElem?_eq_getElem lt) h fun acc' e' h' => lc_from I xs hs hd n (i + 1) acc' e' (by omega) (by omega) h'
/-- a comprehension by its word -/
theorem lc_inv {Q : List D → List Sl → Prop} (I : Nat → List D → List Sl → Prop) {xs : List D} {e : List Sl} (h0 : I 0 [] e)
    (hs : ∀ (i : Nat) x acc e (N : List D → List Sl → Prop), xs[i]? = some x → I i acc e → (∀ acc' e', I (i + 1) acc' e' → N acc' e') → g x e fun e1 => t e1 fun k e2 => br k (ir e2 fun r e3 => bnd (leak r e3) fun p => N (acc ++ [p.1]) (wipeE p.2 vs)) (N acc (wipeE e2 vs)))
    (hd : ∀ acc e, I xs.length acc e → Q acc e) : HC g t ir vs Q xs [] e := by
  have := lc_from (Q := Q) I xs hs hd xs.length 0 [] e (by omega) (by omega) h0
  exact ⟨this⟩
theorem while_inv (I : Nat → List Sl → Prop) {e : List Sl} (n : Nat) (h0 : I n e)
    (hs : ∀ n e (N : List Sl → Prop), I n e → (∀ m e', m < n → I m e' → N e') → t e fun k e1 => br k (body { De with nx := N, ct := N, bk := De.nx } e1) (De.nx e1)) : dWhile t body De e := by
  have key : ∀ n, ∀ N, N ≤ n → ∀ e, I N e → ∀ k, n < k → whileD t body De k e := by
    intro n
    induction n with
    | zero =>
      intro N hN e h k hk
      cases k with
      | zero => omega
      | succ k => exact hs N e _ h fun m e' hm _ => by omega
    | succ n ih =>
      intro N hN e h k hk
      cases k with
      | zero => omega
      | succ k => exact hs N e _ h fun m e' hm h' => ih m (by omega) e' h' k (by omega)
  exact ⟨n + 1, key n n (Nat.le_refl _) e h0 (n + 1) (by omega)⟩
end
/-! ### data that == takes -/
def Ok (n : Nat) (d : D) : Prop := d.canLay0 = true ∧ d.depth ≤ n
theorem Ok.okD {n : Nat} {d : D} (h : Ok n d) (l : n ≤ 64 := by decide) : okD d := by
  unfold HD.okD SeqAt.shaped
  rw [h.1, Bool.true_and, decide_eq_true_eq]
  exact Nat.le_trans h.2 l
theorem Ok.mono {m n : Nat} {d : D} (h : Ok m d) (l : m ≤ n) : Ok n d := ⟨h.1, Nat.le_trans h.2 l⟩
theorem Ok.int {n : Nat} {i : Int} : Ok n (.int i) := ⟨by simp only [PyData.canLay0], by simp only [PyData.depth]; omega⟩
theorem Ok.bool {n : Nat} {i : Bool} : Ok n (.bool i) := ⟨by simp only [PyData.canLay0], by simp only [PyData.depth]; omega⟩
theorem Ok.none {n : Nat} : Ok n .none := ⟨by simp only [PyData.canLay0], by simp only [PyData.depth]; omega⟩
def StrOk (z : Str) : Prop := ∀ c ∈ z.cps.toList, c < 0x110000
theorem Ok.str {n : Nat} {z : Str} (h : StrOk z) : Ok n (.str z) := by
  refine ⟨?_, by simp only [PyData.depth]; omega⟩
  simp only [PyData.canLay0, PyData.strOk]
  rw [← Array.all_toList, List.all_eq_true]
  intro c hc
  exact decide_eq_true (h c hc)
theorem okAll {n : Nat} : ∀ {ds : List D}, (∀ d ∈ ds, Ok n d) → PyData.canLayAll0 ds = true ∧ PyData.depthAll ds ≤ n
  | [], _ => ⟨by simp only [PyData.canLayAll0], by simp only [PyData.depthAll]; omega⟩
  | d :: ds, h => by
    obtain ⟨a, b⟩ := okAll (ds := ds) fun d hd => h d (List.mem_cons_of_mem _ hd)
    obtain ⟨a', b'⟩ := h d List.mem_cons_self
    exact ⟨by simp only [PyData.canLayAll0, a, a', Bool.and_self], by simp only [PyData.depthAll]; omega⟩
theorem Ok.tup {n : Nat} {ds : List D} (h : ∀ d ∈ ds, Ok n d) : Ok (n + 1) (.tuple ds) := by
  obtain ⟨a, b⟩ := okAll h
  exact ⟨by simp only [PyData.canLay0, a], by simp only [PyData.depth]; omega⟩
theorem Ok.lst {n : Nat} {ds : List D} (h : ∀ d ∈ ds, Ok n d) : Ok (n + 1) (.list ds) := by
  obtain ⟨a, b⟩ := okAll h
  exact ⟨by simp only [PyData.canLay0, a], by simp only [PyData.depth]; omega⟩
/-! ### data that is shown in so many signs -/
def Sw (n l : Nat) (d : D) : Prop := d.showable = true ∧ d.depth ≤ n ∧ d.shown.length ≤ l ∧ d.hasDict = false
theorem Sw.okR {n l : Nat} {d : D} (h : Sw n l d) (a : n ≤ 64 := by decide) (b : l ≤ 16777216 := by decide) : okR d := by
  obtain ⟨h1, h2, h3, h4⟩ := h
  exact ⟨h1, by omega, Nat.le_trans h3 (by rw [sizeLine_eq]; exact b), h4⟩
theorem Sw.mono {n m l k : Nat} {d : D} (h : Sw n l d) (a : n ≤ m) (b : l ≤ k) : Sw m k d := ⟨h.1, Nat.le_trans h.2.1 a, Nat.le_trans h.2.2.1 b, h.2.2.2⟩
theorem Sw.int {n : Nat} {i : Int} (h : i.natAbs.log2 < 1920) : Sw n 1921 (.int i) :=
  ⟨by simp only [PyData.showable]; exact decide_eq_true h, by simp only [PyData.depth]; omega, by simp only [PyData.shown]; exact int_text_len_1921 h, by simp only [PyData.hasDict]⟩
theorem log_small {i : Int} {k : Nat} (h : i.natAbs < 2 ^ k) (hk : k ≤ 1920 := by decide) (h0 : 0 < k := by decide) : i.natAbs.log2 < 1920 := by
  by_cases z : i.natAbs = 0
  · rw [z]; decide
  · exact Nat.lt_of_lt_of_le ((Nat.log2_lt z).mpr h) hk
theorem Sw.str {n m : Nat} {z : Str} (h : StrOk z) (hl : z.length ≤ m) : Sw n (10 * m + 2) (.str z) := by
  refine ⟨by simp only [PyData.showable], by simp only [PyData.depth]; omega, ?_, by simp only [PyData.hasDict]⟩
  simp only [PyData.shown]
  have := PySem.StrLaws.reprText_len z fun c hc => Nat.lt_trans (h c hc) (by decide)
  omega
theorem swAll {n l : Nat} : ∀ {ds : List D}, (∀ d ∈ ds, Sw n l d) → PyData.showableAll ds = true ∧ PyData.depthAll ds ≤ n ∧ PyData.hasDictAll ds = false ∧ (∀ t ∈ PyData.shownAll ds, t.length ≤ l) ∧ (PyData.shownAll ds).length = ds.length
  | [], _ => ⟨by simp only [PyData.showableAll], by simp only [PyData.depthAll]; omega, by simp only [PyData.hasDictAll], by simp [PyData.shownAll], by simp [PyData.shownAll]⟩
  | d :: ds, h => by
    obtain ⟨a, b, c, e, f⟩ := swAll (ds := ds) fun d hd => h d (List.mem_cons_of_mem _ hd)
    obtain ⟨a', b', c', e'⟩ := h d List.mem_cons_self
    refine ⟨by simp only [PyData.showableAll, a, a', Bool.and_self], by simp only [PyData.depthAll]; omega, by simp only [PyData.hasDictAll, c, e', Bool.or_self], ?_, by simp [PyData.shownAll, f]⟩
    intro t ht
    simp only [PyData.shownAll] at ht
    rcases List.mem_cons.mp ht with rfl | ht
    · exact c'
    · exact e t ht
theorem join_le {l : Nat} : ∀ {ts : List Str}, (∀ t ∈ ts, t.length ≤ l) → (Str.join ", " ts).length ≤ ts.length * (l + 2)
  | [], _ => by
    show Str.empty.length ≤ _
    exact Nat.zero_le _
  | [x], h => by
    have := h x List.mem_cons_self
    show x.length ≤ 1 * (l + 2)
    omega
  | x :: y :: r, h => by
    have ih := join_le (ts := y :: r) fun t ht => h t (List.mem_cons_of_mem _ ht)
    have h1 := h x List.mem_cons_self
    show (x ++ ", " ++ Str.join ", " (y :: r)).length ≤ (r.length + 1 + 1) * (l + 2)
    rw [PySem.Str.length_append, PySem.Str.length_append]
    have e2 : ((", " : String) : Str).length = 2 := rfl
    rw [e2]
    have : (r.length + 1 + 1) * (l + 2) = (y :: r).length * (l + 2) + (l + 2) := by rw [List.length_cons, Nat.succ_mul]
    omega
theorem Sw.tup {n l m : Nat} {ds : List D} (h : ∀ d ∈ ds, Sw n l d) (hm : ds.length ≤ m) : Sw (n + 1) (m * (l + 2) + 3) (.tuple ds) := by
  obtain ⟨a, b, c, e, f⟩ := swAll h
  refine ⟨by simp only [PyData.showable, a], by simp only [PyData.depth]; omega, ?_, by simp only [PyData.hasDict, c]⟩
  simp only [PyData.shown]
  unfold tupleText
  rw [PySem.Str.length_append, PySem.Str.length_append]
  have h1 := join_le e
  rw [f] at h1
  have h2 : ds.length * (l + 2) ≤ m * (l + 2) := Nat.mul_le_mul_right _ hm
  have e1 : (("(" : String) : Str).length = 1 := rfl
  rw [e1]
  split
  · have e3 : ((",)" : String) : Str).length = 2 := rfl
    rw [e3]
    omega
  · have e3 : ((")" : String) : Str).length = 1 := rfl
    rw [e3]
    omega
end HD


set_option Elab.async false
set_option linter.all false
set_option maxRecDepth 100000
set_option maxHeartbeats 4000000
/-! HD9: sorted(..) of data: whole numbers, texts, tuples whose items are these or tuples of whole numbers. -/
namespace HD
open PySem PySem.Spec PyProof.Rows

/-! ### an order of all data -/
mutual
def enc : PyData → List Int
  | .none => [1]
  | .bool b => [2, if b then 1 else 0]
  | .int i => [3, i]
  | .str z => 4 :: (z.cps.toList.map fun c => ((c : Nat) : Int) + 1) ++ [0]
  | .list xs => 5 :: encAll xs
  | .tuple xs => 6 :: encAll xs
  | .dict _ => [7]
def encAll : List PyData → List Int
  | [] => [0]
  | x :: xs => enc x ++ encAll xs
end
def ltK (x y : PyData) : Bool := decide (enc x < enc y)
theorem swo_k (k : Value → PyData) : SrtO.Swo fun v u => ltK (k v) (k u) := by
  refine ⟨fun x y h => ?_, fun x y z h1 h2 => ?_⟩
  · have a := of_decide_eq_true h
    exact decide_eq_false (List.lt_asymm a)
  · have a := of_decide_eq_false h1
    have b := of_decide_eq_false h2
    exact decide_eq_false (List.not_lt.mpr (List.le_trans (List.not_lt.mp a) (List.not_lt.mp b)))
theorem swo_ltK : SrtO.Swo ltK := by
  refine ⟨fun x y h => ?_, fun x y z h1 h2 => ?_⟩
  · have a := of_decide_eq_true h
    exact decide_eq_false (List.lt_asymm a)
  · have a := of_decide_eq_false h1
    have b := of_decide_eq_false h2
    exact decide_eq_false (List.not_lt.mpr (List.le_trans (List.not_lt.mp a) (List.not_lt.mp b)))
theorem cons_lt {a b : Int} {s t : List Int} : (a :: s < b :: t) ↔ a < b ∨ (a = b ∧ s < t) := List.cons_lt_cons_iff
theorem str_lt : ∀ {u v : List Nat} {s t : List Int}, (u.map (fun c => ((c : Nat) : Int) + 1) ++ 0 :: s < v.map (fun c => ((c : Nat) : Int) + 1) ++ 0 :: t) ↔ u < v ∨ (u = v ∧ s < t)
  | [], [], s, t => by
    simp only [List.map_nil, List.nil_append]
    rw [cons_lt]
    simp
  | [], b :: v, s, t => by
    simp only [List.map_nil, List.nil_append, List.map_cons, List.cons_append]
    rw [cons_lt]
    first | (simp; done) | (simp; omega)
  | a :: u, [], s, t => by
    simp only [List.map_nil, List.nil_append, List.map_cons, List.cons_append]
    rw [cons_lt]
    first | (simp; done) | (simp; omega)
  | a :: u, b :: v, s, t => by
    simp only [List.map_cons, List.cons_append]
    rw [cons_lt, str_lt, List.cons_lt_cons_iff]
    constructor
    · rintro (h | ⟨h, h2 | ⟨h2, h3⟩⟩)
      · exact Or.inl (Or.inl (by omega))
      · exact Or.inl (Or.inr ⟨by omega, h2⟩)
      · exact Or.inr ⟨by rw [h2, show a = b by omega], h3⟩
    · rintro ((h | ⟨h, h2⟩) | ⟨h, h2⟩)
      · exact Or.inl (by omega)
      · exact Or.inr ⟨by omega, Or.inl h2⟩
      · cases h
        exact Or.inr ⟨rfl, Or.inr ⟨rfl, h2⟩⟩
theorem ints_lt : ∀ {u v : List Int} {s t : List Int}, (encAll (u.map PyData.int) ++ s < encAll (v.map PyData.int) ++ t) ↔ HT.lexLt u v = true ∨ (u = v ∧ s < t)
  | [], [], s, t => by
    simp only [List.map_nil, encAll, List.cons_append, List.nil_append]
    rw [cons_lt, HT.lexLt_nil_nil]
    simp
  | [], b :: v, s, t => by
    simp only [List.map_nil, List.map_cons, encAll, enc, List.cons_append, List.nil_append]
    rw [cons_lt, HT.lexLt_nil_cons]
    simp
  | a :: u, [], s, t => by
    simp only [List.map_nil, List.map_cons, encAll, enc, List.cons_append, List.nil_append]
    rw [cons_lt, HT.lexLt_cons_nil]
    simp
  | a :: u, b :: v, s, t => by
    simp only [List.map_cons, encAll, enc, List.cons_append, List.nil_append]
    rw [cons_lt, cons_lt, ints_lt, HT.lexLt_cons]
    by_cases e : a = b
    · subst e
      simp
    · rw [if_neg e]
      simp [e]
/-! ### what one item of a tuple may be -/
inductive Kd where
  | I | S | T
  deriving DecidableEq
def OfKd : Kd → PyData → Prop
  | .I, d => ∃ i, d = .int i
  | .S, d => ∃ z, d = .str z
  | .T, d => ∃ ns : List Int, d = .tuple (ns.map PyData.int)
def ltOne : PyData → PyData → Bool
  | .int i, .int j => decide (i < j)
  | .str a, .str b => decide (a.cps.toList < b.cps.toList)
  | .tuple xs, .tuple ys => decide (encAll xs < encAll ys)
  | _, _ => false
theorem one_lt {k : Kd} {x y : PyData} (hx : OfKd k x) (hy : OfKd k y) {s t : List Int} : (enc x ++ s < enc y ++ t) ↔ ltOne x y = true ∨ (x = y ∧ s < t) := by
  cases k with
  | I =>
    obtain ⟨i, rfl⟩ := hx
    obtain ⟨j, rfl⟩ := hy
    simp only [enc, List.cons_append, List.nil_append, ltOne, decide_eq_true_eq]
    rw [cons_lt, cons_lt]
    simp
  | S =>
    obtain ⟨i, rfl⟩ := hx
    obtain ⟨j, rfl⟩ := hy
    simp only [enc, List.cons_append, List.append_assoc, List.nil_append, ltOne, decide_eq_true_eq]
    rw [cons_lt, str_lt]
    have e : (i.cps.toList = j.cps.toList) ↔ PyData.str i = PyData.str j := ⟨fun h => by
      obtain ⟨⟨a⟩⟩ := i
      obtain ⟨⟨b⟩⟩ := j
      simp at h
      rw [h], fun h => by cases h; rfl⟩
    rw [e]
    simp
  | T =>
    obtain ⟨u, rfl⟩ := hx
    obtain ⟨v, rfl⟩ := hy
    simp only [enc, List.cons_append, ltOne, decide_eq_true_eq]
    rw [cons_lt, ints_lt]
    have h0 := ints_lt (u := u) (v := v) (s := []) (t := [])
    simp only [List.append_nil] at h0
    rw [h0]
    have e : u = v ↔ PyData.tuple (u.map PyData.int) = PyData.tuple (v.map PyData.int) := ⟨fun h => by rw [h], fun h => by
      have h := PyData.tuple.inj h
      exact (List.map_inj_right (fun _ _ e => PyData.int.inj e)).mp h⟩
    rw [e]
    simp
inductive OfKds : List Kd → List PyData → Prop
  | nil : OfKds [] []
  | cons {k : Kd} {d : PyData} {ks : List Kd} {ds : List PyData} : OfKd k d → OfKds ks ds → OfKds (k :: ks) (d :: ds)
/-- lists of data that sorted takes -/
inductive Sortable : List PyData → Prop
  | sInts {ds : List PyData} (ns : List Int) : ds = ns.map PyData.int → Sortable ds
  | sStrs {ds : List PyData} (zs : List Str) : ds = zs.map PyData.str → (∀ d ∈ ds, d.canLay0 = true) → Sortable ds
  | sTups {ds : List PyData} (k : Kd) (ks : List Kd) : (∀ d ∈ ds, ∃ es, d = .tuple es ∧ OfKds (k :: ks) es ∧ d.canLay0 = true) → Sortable ds
theorem canInts : ∀ ns : List Int, PyData.canLayAll0 (ns.map PyData.int) = true
  | [] => by simp only [List.map_nil, PyData.canLayAll0]
  | n :: ns => by
    rw [List.map_cons, PyData.canLayAll0, canInts ns]
    simp only [PyData.canLay0, Bool.and_true]
theorem canAll_of : ∀ {ds : List PyData}, (∀ d ∈ ds, d.canLay0 = true) → PyData.canLayAll0 ds = true
  | [], _ => by simp only [PyData.canLayAll0]
  | d :: ds, h => by
    rw [PyData.canLayAll0, canAll_of fun x hx => h x (List.mem_cons_of_mem _ hx), h d List.mem_cons_self]
    rfl
theorem Sortable.can {ds : List PyData} (h : Sortable ds) : PyData.canLayAll0 ds = true := by
  cases h with
  | sInts ns e => rw [e]; exact canInts ns
  | sStrs zs e h => exact canAll_of h
  | sTups k ks h => exact canAll_of fun d hd => (h d hd).choose_spec.2.2
theorem eqv_ints : ∀ u v : List Int, PyData.eqvAll (u.map PyData.int) (v.map PyData.int) = decide (u = v)
  | [], [] => by simp [PyData.eqvAll]
  | [], b :: v => by simp [PyData.eqvAll]
  | a :: u, [] => by simp [PyData.eqvAll]
  | a :: u, b :: v => by
    rw [List.map_cons, List.map_cons, PyData.eqvAll, eqv_ints u v]
    by_cases e : a = b <;> by_cases e2 : u = v <;> simp [PyData.eqv, e, e2]
theorem eqv_kd {k : Kd} {x y : PyData} (hx : OfKd k x) (hy : OfKd k y) : PyData.eqv x y = true ↔ x = y := by
  cases k with
  | I =>
    obtain ⟨i, rfl⟩ := hx
    obtain ⟨j, rfl⟩ := hy
    simp [PyData.eqv]
  | S =>
    obtain ⟨i, rfl⟩ := hx
    obtain ⟨j, rfl⟩ := hy
    simp [PyData.eqv]
  | T =>
    obtain ⟨u, rfl⟩ := hx
    obtain ⟨v, rfl⟩ := hy
    simp only [PyData.eqv]
    rw [eqv_ints, decide_eq_true_eq]
    exact ⟨fun h => by rw [h], fun h => (List.map_inj_right (fun _ _ e => PyData.int.inj e)).mp (PyData.tuple.inj h)⟩
section
variable {prog : Program} {w : World} {A : Around} {E : Value → Shared → Prop} {s : Shared}
open SeqAt
theorem reads_ints : ∀ {ns : List Int} {vs : List Value} {as : List Addr}, ReadsAll s.heap vs (ns.map PyData.int) as → IntsAre vs ns
  | [], _, _, h => by cases h; exact .nil
  | n :: ns, _, _, h => by
    cases h with
    | cons h1 h2 =>
      cases h1 with
      | int i t => exact .cons n t (reads_ints h2)
theorem reads_strs : ∀ {ns : List Str} {vs : List Value} {as : List Addr}, ReadsAll s.heap vs (ns.map PyData.str) as → StrsAre vs ns
  | [], _, _, h => by cases h; exact .nil
  | n :: ns, _, _, h => by
    cases h with
    | cons h1 h2 =>
      cases h1 with
      | str i t => exact .cons n t (reads_strs h2)
theorem lt_kd {k : Kd} {x y : PyData} {v u : Value} {as bs : List Addr} {Q : Value → Shared → Prop} (hx : OfKd k x) (hy : OfKd k y) (rx : Reads s.heap v x as) (ry : Reads s.heap u y bs) (hu : A.units < cLine) (h : Q (.bool (ltOne x y)) s) :
    wpAny (model prog w) A (compareOp .Lt v u) Q E s := by
  cases k with
  | I =>
    obtain ⟨i, rfl⟩ := hx
    obtain ⟨j, rfl⟩ := hy
    cases rx
    cases ry
    exact lt_int h
  | S =>
    obtain ⟨i, rfl⟩ := hx
    obtain ⟨j, rfl⟩ := hy
    cases rx
    cases ry
    exact lt_str h
  | T =>
    obtain ⟨i, rfl⟩ := hx
    obtain ⟨j, rfl⟩ := hy
    cases rx with
    | tuple h1 h2 h3 h4 =>
    cases ry with
    | tuple g1 g2 g3 g4 =>
    refine HT.lt_tupInts ⟨_, h1, h2, _, h3⟩ ⟨_, g1, g2, _, g3⟩ (reads_ints h4) (reads_ints g4) hu ?_
    have e : ltOne (.tuple (i.map PyData.int)) (.tuple (j.map PyData.int)) = HT.lexLt i j := by
      have h0 := ints_lt (u := i) (v := j) (s := []) (t := [])
      simp only [List.append_nil] at h0
      show decide _ = _
      by_cases q : HT.lexLt i j = true
      · rw [q]
        exact decide_eq_true (h0.mpr (Or.inl q))
      · rw [Bool.eq_false_iff.mpr q]
        exact decide_eq_false fun z => by
          rcases h0.mp z with z | ⟨_, z⟩
          · exact q z
          · exact absurd z (by simp)
    rw [← e]
    exact h

theorem one_kd {c : Bool} {k : Kd} {x y : PyData} {v u : Value} {as bs : List Addr} {Q : Bool → Shared → Prop} (hc : c = true → k ≠ .T) (hx : OfKd k x) (hy : OfKd k y) (rx : Reads s.heap v x as) (ry : Reads s.heap u y bs) (hu : A.units < cLine) (h : Q (ltOne x y) s) :
    wpAny (model prog w) A (oneLt' c v u) Q E s := by
  cases c with
  | false => exact PySem.W.kat_one _ _ (lt_kd hx hy rx ry hu h)
  | true =>
    cases k with
    | I =>
      obtain ⟨i, rfl⟩ := hx
      obtain ⟨j, rfl⟩ := hy
      cases rx
      cases ry
      exact oneLt_int h
    | S =>
      obtain ⟨i, rfl⟩ := hx
      obtain ⟨j, rfl⟩ := hy
      cases rx
      cases ry
      exact oneLt_str h
    | T => exact absurd rfl (hc rfl)
theorem ofKds_len : ∀ {ks : List Kd} {es : List PyData}, OfKds ks es → es.length = ks.length
  | _, _, .nil => rfl
  | _, _, .cons _ h => congrArg (· + 1) (ofKds_len h)
theorem lex_kds {c : Bool} {Q : Bool → Shared → Prop} (hu : A.units + 64 < cLine) : ∀ {ks : List Kd} {es fs : List PyData} {vs us : List Value} {as bs : List Addr} {i : Nat}, OfKds ks es → OfKds ks fs → ReadsAll s.heap vs es as → ReadsAll s.heap us fs bs →
    PyData.canLayAll0 es = true → PyData.canLayAll0 fs = true → ((c && i == 0) = true → ks.head? ≠ some .T) → Q (decide (encAll es < encAll fs)) s → PySem.W.KatLex prog w A c false Q (vs.zip us) i s
  | _, _, _, _, _, _, _, _, .nil, .nil, r1, r2, _, _, _, h => by
    cases r1
    cases r2
    refine PySem.W.kat_nil ?_
    have e : decide (encAll [] < encAll []) = false := by simp [encAll]
    rw [e] at h
    exact h
  | k :: ks, x :: es, y :: fs, _, _, _, _, i, .cons hx hes, .cons hy hfs, r1, r2, c1, c2, hc, h => by
    have c1 : x.canLay0 = true ∧ PyData.canLayAll0 es = true := by simpa [PyData.canLayAll0] using c1
    have c2 : y.canLay0 = true ∧ PyData.canLayAll0 fs = true := by simpa [PyData.canLayAll0] using c2
    cases r1 with
    | cons a1 a2 =>
    cases r2 with
    | cons b1 b2 =>
    have hd : ∀ {k : Kd} {d : PyData}, OfKd k d → d.depth ≤ 64 := by
      intro k d h
      cases k with
      | I => obtain ⟨_, rfl⟩ := h; simp only [PyData.depth]; omega
      | S => obtain ⟨_, rfl⟩ := h; simp only [PyData.depth]; omega
      | T =>
        obtain ⟨ns, rfl⟩ := h
        have : ∀ ns : List Int, PyData.depthAll (ns.map PyData.int) ≤ 2 := by
          intro ns
          induction ns with
          | nil => simp only [List.map_nil, PyData.depthAll]; omega
          | cons n ns ih =>
            rw [List.map_cons, PyData.depthAll]
            simp only [PyData.depth]
            omega
        have := this ns
        simp only [PyData.depth]
        omega
    have m : min x.depth y.depth ≤ 64 := Nat.le_trans (Nat.min_le_left _ _) (hd hx)
    refine PySem.W.kat_cons (eqAt_reads x y A s _ _ _ _ a1 b1 c1.1 c2.1 (by omega) prog w _ _ ?_)
    have q := one_lt hx hy (s := encAll es) (t := encAll fs)
    refine PySem.W.kat_go (fun e1 => PySem.W.kat_yes ?_) (fun e1 => PySem.W.kat_no ?_)
    · have e2 := (eqv_kd hx hy).mp e1
      subst e2
      refine lex_kds hu hes hfs a2 b2 c1.2 c2.2 (by simp) ?_
      have e3 : decide (encAll (x :: es) < encAll (x :: fs)) = decide (encAll es < encAll fs) := by
        have e4 : ltOne x x = false := by
          have := one_lt hx hx (s := []) (t := [])
          cases h : ltOne x x with
          | false => rfl
          | true => exact absurd (this.mpr (Or.inl h)) (List.lt_irrefl _)
        refine decide_eq_decide.mpr ?_
        simp only [encAll]
        rw [q, e4]
        simp
      rw [e3] at h
      exact h
    · refine one_kd (fun z => ?_) hx hy a1 b1 (by omega) ?_
      · have := hc z
        simpa using this
      · have e3 : decide (encAll (x :: es) < encAll (y :: fs)) = ltOne x y := by
          have ne : x ≠ y := fun z => by
            have := (eqv_kd hx hy).mpr z
            rw [e1] at this
            cases this
          cases h : ltOne x y with
          | true => exact decide_eq_true (q.mpr (Or.inl h))
          | false =>
            exact decide_eq_false fun z => by
              rcases q.mp z with z | ⟨z, _⟩
              · rw [h] at z; cases z
              · exact ne z
        rw [e3] at h
        exact h

/-! ### the call -/
noncomputable abbrev ltvK (h : Heap) (v u : Value) : Bool := ltK (readOf h v) (readOf h u)
theorem mem_read : ∀ {vs : List Value} {ds : List PyData} {as : List Addr} {v : Value}, ReadsAll s.heap vs ds as → v ∈ vs → ∃ d bs, d ∈ ds ∧ Reads s.heap v d bs
  | _, [], _, _, r, m => by cases r; cases m
  | _, d :: ds, _, v, r, m => by
    cases r with
    | cons r1 r2 =>
      rcases List.mem_cons.mp m with rfl | m
      · exact ⟨d, _, List.mem_cons_self, r1⟩
      · obtain ⟨d', bs, h1, h2⟩ := mem_read r2 m
        exact ⟨d', bs, List.mem_cons_of_mem _ h1, h2⟩
theorem can_mem : ∀ {ds : List PyData} {d : PyData}, PyData.canLayAll0 ds = true → d ∈ ds → d.canLay0 = true
  | [], _, _, m => by cases m
  | x :: ds, d, h, m => by
    have h' : x.canLay0 = true ∧ PyData.canLayAll0 ds = true := by simpa [PyData.canLayAll0] using h
    rcases List.mem_cons.mp m with rfl | m
    · exact h'.1
    · exact can_mem h'.2 m
theorem kat_tups_of {k : Kd} {ks : List Kd} : ∀ {vs : List Value} {ds : List PyData} {as : List Addr}, ReadsAll s.heap vs ds as → (∀ d ∈ ds, ∃ es, d = .tuple es ∧ OfKds (k :: ks) es ∧ d.canLay0 = true) →
    ∃ fs, PySem.W.KatTups s.heap vs fs ∧ fs.length = vs.length ∧ ∀ f ∈ fs, ∃ d bs, OfKd k d ∧ Reads s.heap f d bs
  | _, [], _, r, _ => by
    cases r
    exact ⟨[], .nil, rfl, fun f hf => by cases hf⟩
  | _, d :: ds, _, r, h => by
    cases r with
    | cons r1 r2 =>
      obtain ⟨fs, h1, h2, h3⟩ := kat_tups_of r2 fun x hx => h x (List.mem_cons_of_mem _ hx)
      obtain ⟨es, rfl, ho, _⟩ := h d List.mem_cons_self
      cases ho with
      | cons hk hks =>
      cases r1 with
      | @tuple _ _ its _ _ _ g1 g2 g3 g4 =>
      obtain ⟨its⟩ := its
      cases its with
      | nil => cases g4
      | cons i0 its =>
      cases g4 with
      | cons a1 a2 =>
      refine ⟨i0 :: fs, .cons g1 g2 g3 (by rfl) h1, by simp [h2], fun f hf => ?_⟩
      · rcases List.mem_cons.mp hf with rfl | hf
        · exact ⟨_, _, hk, a1⟩
        · exact h3 f hf
theorem readAll_sortableO {a : Addr} {vs : List Value} {ds : List PyData} {as : List Addr} (hr : ReadsAll s.heap vs ds as) (hs : Sortable ds) (hu : A.units + 64 < cLine) (h2 : 2 ≤ vs.length) {h₁ : Heap} (kk : ∀ b o, s.heap.get? b = some o → b ≠ a ∧ h₁.get? b = some o) :
    SrtO.SortableO prog w A { s with heap := h₁ } a vs (ltvK s.heap) := by
  intro h' keep
  have kp : ∀ b o, s.heap.get? b = some o → h'.get? b = some o := fun b o e => keep b o (kk b o e).1 (kk b o e).2
  have hr' : ReadsAll h' vs ds as := PyProof.Rows.ReadsAll.keeps kp hr
  have hc := hs.can
  have back : ∀ v ∈ vs, ∃ d bs, d ∈ ds ∧ Reads h' v d bs ∧ readOf s.heap v = d := fun v m => by
    obtain ⟨d, bs, h1, h2⟩ := mem_read hr m
    exact ⟨d, bs, h1, PyProof.Rows.Reads.keeps kp h2, readOf_eq (can_mem hc h1) h2⟩
  cases hs with
  | sInts ns e =>
    subst e
    have hI : IntsAre vs ns := reads_ints (s := { s with heap := h' }) hr'
    refine ⟨oneType', fun Q E hq => ?_, fun p q hm hm' => ?_⟩
    · match vs, hI, h2 with
      | v1 :: v2 :: rest, hI, _ =>
        rw [keyKind_ints hI]
        exact wpAny_pure hq
      | [], _, h => exact absurd h (by decide)
      | [v], _, h => exact absurd h (by simp)
    · obtain ⟨d, bs, h1, h2, h3⟩ := back _ hm
      obtain ⟨d', bs', h1', h2', h3'⟩ := back _ hm'
      show wpAny (model prog w) A (keyLt' oneType' p.1 q.1) (fun r s' => s' = { s with heap := h' } ∧ r = ltvK s.heap p.1 q.1) (fun _ _ => False) { s with heap := h' }
      obtain ⟨i, _, rfl⟩ := List.mem_map.mp h1
      obtain ⟨j, _, rfl⟩ := List.mem_map.mp h1'
      rw [keyLt'_oneType]
      refine one_kd (s := { s with heap := h' }) (c := true) (k := .I) (fun _ => by decide) ⟨i, rfl⟩ ⟨j, rfl⟩ h2 h2' (by omega) ⟨rfl, ?_⟩
      unfold ltvK ltK
      rw [h3, h3']
      have q := one_lt (k := .I) (x := .int i) (y := .int j) ⟨i, rfl⟩ ⟨j, rfl⟩ (s := []) (t := [])
      simp only [List.append_nil] at q
      cases h : ltOne (.int i) (.int j) with
      | true => exact (decide_eq_true (q.mpr (Or.inl h))).symm
      | false =>
        refine (decide_eq_false fun z => ?_).symm
        rcases q.mp z with z | ⟨_, z⟩
        · rw [h] at z; cases z
        · exact absurd z (by simp)
  | sStrs ns e hcs =>
    subst e
    have hI : StrsAre vs ns := reads_strs (s := { s with heap := h' }) hr'
    refine ⟨oneType', fun Q E hq => ?_, fun p q hm hm' => ?_⟩
    · match vs, hI, h2 with
      | v1 :: v2 :: rest, hI, _ =>
        rw [keyKind_strs hI]
        exact wpAny_pure hq
      | [], _, h => exact absurd h (by decide)
      | [v], _, h => exact absurd h (by simp)
    · obtain ⟨d, bs, h1, h2, h3⟩ := back _ hm
      obtain ⟨d', bs', h1', h2', h3'⟩ := back _ hm'
      show wpAny (model prog w) A (keyLt' oneType' p.1 q.1) (fun r s' => s' = { s with heap := h' } ∧ r = ltvK s.heap p.1 q.1) (fun _ _ => False) { s with heap := h' }
      obtain ⟨i, _, rfl⟩ := List.mem_map.mp h1
      obtain ⟨j, _, rfl⟩ := List.mem_map.mp h1'
      rw [keyLt'_oneType]
      refine one_kd (s := { s with heap := h' }) (c := true) (k := .S) (fun _ => by decide) ⟨i, rfl⟩ ⟨j, rfl⟩ h2 h2' (by omega) ⟨rfl, ?_⟩
      unfold ltvK ltK
      rw [h3, h3']
      have q := one_lt (k := .S) (x := .str i) (y := .str j) ⟨i, rfl⟩ ⟨j, rfl⟩ (s := []) (t := [])
      simp only [List.append_nil] at q
      cases h : ltOne (.str i) (.str j) with
      | true => exact (decide_eq_true (q.mpr (Or.inl h))).symm
      | false =>
        refine (decide_eq_false fun z => ?_).symm
        rcases q.mp z with z | ⟨_, z⟩
        · rw [h] at z; cases z
        · exact absurd z (by simp)
  | sTups k ks h =>
    obtain ⟨fs, g1, g2, g3⟩ := kat_tups_of (s := { s with heap := h' }) hr' h
    have T0 : ∃ T : Value, (T == T) = true ∧ (k ≠ .T ↔ (T != Value.type "tuple") = true) ∧ ∀ M, ∀ v ∈ fs, PySem.W.Looks M h' (typeOf v) T := by
      cases k with
      | I =>
        refine ⟨.type "int", by decide +kernel, by decide +kernel, fun M v hv => ?_⟩
        obtain ⟨d, bs, ⟨i, rfl⟩, r⟩ := g3 v hv
        cases r
        exact PySem.W.Looks.now
      | S =>
        refine ⟨.type "str", by decide +kernel, by decide +kernel, fun M v hv => ?_⟩
        obtain ⟨d, bs, ⟨i, rfl⟩, r⟩ := g3 v hv
        cases r
        exact PySem.W.Looks.now
      | T =>
        refine ⟨.type "tuple", by decide +kernel, by decide +kernel, fun M v hv => ?_⟩
        obtain ⟨d, bs, ⟨i, rfl⟩, r⟩ := g3 v hv
        cases r with
        | tuple q1 q2 q3 q4 => exact fun A Q E s k q => wpAny_typeOf_ref (k _ _ q1) (by rw [q2]; exact q)
    obtain ⟨T, t1, t2, t3⟩ := T0
    refine ⟨tuples' (T != Value.type "tuple"), fun Q E hq => PySem.W.kat_kind (s := { s with heap := h' }) g1 (by omega) (t3 _) t1 hq, fun p q hm hm' => ?_⟩
    obtain ⟨d, bs, h1, h2, h3⟩ := back _ hm
    obtain ⟨d', bs', h1', h2', h3'⟩ := back _ hm'
    show wpAny (model prog w) A (keyLt' (tuples' (T != Value.type "tuple")) p.1 q.1) (fun r s' => s' = { s with heap := h' } ∧ r = ltvK s.heap p.1 q.1) (fun _ _ => False) { s with heap := h' }
    obtain ⟨es, rfl, o1, c1⟩ := h _ h1
    obtain ⟨es', rfl, o2, c2⟩ := h _ h1'
    generalize p.1 = pv at h2 h3 ⊢
    generalize q.1 = qv at h2' h3' ⊢
    cases h2 with
    | tuple a1 a2 a3 a4 =>
    cases h2' with
    | tuple b1 b2 b3 b4 =>
    refine PySem.W.kat_lt (s := { s with heap := h' }) a1 a3 b1 b3 ?_
    have e1 := ReadsAll.length _ _ _ a4
    have e2 := ReadsAll.length _ _ _ b4
    rw [ofKds_len o1, Array.length_toList] at e1
    rw [ofKds_len o2, Array.length_toList] at e2
    rw [e1, e2, decide_eq_false (Nat.lt_irrefl _)]
    refine lex_kds (s := { s with heap := h' }) hu o1 o2 a4 b4 (by simpa only [PyData.canLay0] using c1) (by simpa only [PyData.canLay0] using c2) (fun z => ?_) ⟨rfl, ?_⟩
    · intro zz
      have : k = .T := by simpa using zz
      have z2 : (T != Value.type "tuple") = true := by
        revert z
        cases (T != Value.type "tuple") <;> simp
      exact t2.mpr z2 this
    · unfold ltvK ltK
      rw [h3, h3']
      refine decide_eq_decide.mpr ?_
      simp only [enc]
      rw [cons_lt]
      simp

/-- what sorted takes its items from, a tuple -/
theorem collect_tup {l : Addr} {vs : List Value} {Q : List Value → Shared → Prop} (hl : IsTup s.heap l vs.toArray)
    (h : Q vs { s with heap := (s.heap.push (seqObj "list" #[] 0)).update s.heap.objs.size (Obj.mapSeq (· ++ vs.toArray)) }) (hz : vs.length ≤ sizeLine) :
    wpAny (model prog w) A (collect (.ref l)) Q E s := by
  obtain ⟨ob, hob, hcl, ep, hda⟩ := id hl
  unfold collect
  refine wpAny_bind (wpAny_runValue (codeAny_builtin (by first | exact entry_proto_collect') ?_))
  show wpAny _ _ (do again (.builtin "list.__iadd__" ⟨[← newList [], .ref l], []⟩)) _ _ s
  refine wpAny_bind (wpAny_newList (wpAny_pure ⟨Code.quiet_builtin _ (by decide +kernel), (codeAny_builtin entry_list_iadd' ?_)⟩))
  show wpAny _ _ (Builtin.List.listExtendWith (.ref s.heap.objs.size) (.ref l) (.ref s.heap.objs.size)) _ _ { s with heap := s.heap.push (seqObj "list" #[] 0) }
  unfold Builtin.List.listExtendWith
  have hob1 : (s.heap.push (seqObj "list" #[] 0)).get? l = some ob := Heap.get?_push_of_some _ hob
  refine wpAny_bind (wpAny_typeOf_ref hob1 ?_)
  have tt : (ob.cls == Value.type "tuple") = true := by rw [hcl]; rfl
  rw [if_pos (by rw [tt]; simp)]
  refine wpAny_bind (listItems_at hob1 hda ?_)
  refine wpAny_bind (listItems_at (xs := #[]) (n := 0) (by exact Heap.get?_push_size _ rfl) rfl ?_)
  rw [if_neg (by simp)]
  refine wpAny_bind (listUpdate_at (xs := #[]) (n := 0) (by exact Heap.get?_push_size _ rfl) rfl ?_ (Nat.zero_le _) (by
    show (#[] ++ vs.toArray).size ≤ sizeLine + 1
    simp only [Array.size_append, List.size_toArray, List.length_nil]
    omega))
  refine wpAny_pure ?_
  show wpAny (model prog w) A (do
      let o ← load s.heap.objs.size
      match o.data with
      | .seq xs _ => pure xs.toList
      | _ => unsupported "internal:collect") Q E { s with heap := (s.heap.push (seqObj "list" #[] 0)).update s.heap.objs.size (Obj.mapSeq (· ++ vs.toArray)) }
  refine wpAny_bind (wpAny_load (get?_update_seq (by exact Heap.get?_push_size _ rfl) _) ?_)
  show wpAny _ _ (pure ((#[] : Array Value) ++ vs.toArray).toList) Q E _
  rw [show ((#[] : Array Value) ++ vs.toArray).toList = vs by simp]
  exact wpAny_pure h
theorem sorted_tup {l : Addr} {vs : List Value} {ltv : Value → Value → Bool} {Q : Value → Shared → Prop} (O : SrtO.Swo ltv) (hl : IsTup s.heap l vs.toArray) (hz : vs.length ≤ sizeLine)
    (hS : 2 ≤ vs.length → ∀ (h₁ : Heap) (a : Addr), h₁.get? a = some (seqObj "list" vs.toArray 0) → (∀ b o, s.heap.get? b = some o → b ≠ a ∧ h₁.get? b = some o) → SrtO.SortableO prog w A.in1.in1 { s with heap := h₁ } a vs ltv)
    (h : ∀ out : List Value, SrtO.Srtd ltv out → SrtO.Stb ltv out vs → Q (.ref (s.heap.objs.size + 1)) { s with heap := sortedAll s.heap vs out.toArray }) :
    wpAny (model prog w) A (PySem.call (.builtin "sorted") [.ref l]) Q E s := by
  refine Calls.call_function_entry kind_sorted plain_sorted entry_sorted (by exact args_sorted1 _) ?_
  unfold Builtin.«sorted»
  refine wpAny_bind (m := checkCount "sorted" 1 1 _) (by refine wpAny_pure ?_; exact wpAny_bind (collect_tup hl (wpAny_bind (wpAny_newList (by
    have sz : ((s.heap.push (seqObj "list" #[] 0)).update s.heap.objs.size (Obj.mapSeq (· ++ vs.toArray))).objs.size = s.heap.objs.size + 1 := by rw [Heap.size_update, size_push']
    have at1 : (((s.heap.push (seqObj "list" #[] 0)).update s.heap.objs.size (Obj.mapSeq (· ++ vs.toArray))).push (seqObj "list" vs.toArray 0)).get? (s.heap.objs.size + 1) = some (seqObj "list" vs.toArray 0) := by
      rw [← sz]
      exact Heap.get?_push_size _ rfl
    have kp : ∀ b o, s.heap.get? b = some o → b ≠ s.heap.objs.size + 1 ∧ (((s.heap.push (seqObj "list" #[] 0)).update s.heap.objs.size (Obj.mapSeq (· ++ vs.toArray))).push (seqObj "list" vs.toArray 0)).get? b = some o := fun b o q => by
      have lt : b < s.heap.objs.size := Heap.lt_size q
      refine ⟨Nat.ne_of_lt (Nat.lt_succ_of_lt lt), Heap.get?_push_of_some _ ?_⟩
      rw [Heap.get?_update_ne _ _ _ _ (Nat.ne_of_lt lt)]
      exact Heap.get?_push_of_some _ q
    show wpAny _ _ _ _ _ { s with heap := ((s.heap.push (seqObj "list" #[] 0)).update s.heap.objs.size (Obj.mapSeq (· ++ vs.toArray))).push (seqObj "list" vs.toArray 0) }
    rw [sz]
    refine wpAny_bind (wpAny_holding (wpAny_call_entry slot_list_sort ⟨_, at1, rfl⟩ entry_list_sort (SrtO.list_sort_ord O at1 hz (fun h2 => hS h2 _ _ at1 kp) fun out hs hb => ⟨_, rfl, ?_⟩) (by exact args_list_sort _)))
    exact wpAny_pure ⟨_, rfl, h out hs hb⟩) (by exact hz))) hz))
end
section
open SeqAt L2
variable {X : Cx}
def rSortD (K : PySem.W.Frag) : List V → Hp → VK → Prop := fun xs H Q => ∃ (a : Addr) (ys : List V) (ds : List PyData), xs = [.ref a] ∧ (SqL K H a ys ∨ SqT K H a ys) ∧ DpAll K H ys ds ∧ Sortable ds ∧
  ∀ zs es p, SrtO.Srtd ltK es → SrtO.Stb ltK es ds → (∀ G, DpAll K G ys ds → DpAll K G zs es) → H p = none → Q (.ref p) (upd H p (.lst zs))
inductive Zp : List V → List PyData → List (V × PyData) → Prop
  | nil : Zp [] [] []
  | cons {x : V} {d : PyData} {xs : List V} {ds : List PyData} {ps : List (V × PyData)} : Zp xs ds ps → Zp (x :: xs) (d :: ds) ((x, d) :: ps)
theorem Zp.dp {K : PySem.W.Frag} {G : Hp} : ∀ {xs : List V} {ds : List PyData} {ps : List (V × PyData)}, Zp xs ds ps → (DpAll K G xs ds ↔ ∀ p ∈ ps, Dp K G p.1 p.2)
  | _, _, _, .nil => ⟨fun _ p m => (by cases m), fun _ => .nil⟩
  | _, _, _, .cons z => ⟨fun h p m => by
      cases h with
      | cons h1 h2 =>
        rcases List.mem_cons.mp m with rfl | m
        · exact h1
        · exact z.dp.mp h2 p m, fun h => .cons (h _ List.mem_cons_self) (z.dp.mpr fun p m => h p (List.mem_cons_of_mem _ m))⟩
theorem vals_some {ps : List (V × PyData)} {h : Heap} : ∀ {out : List Value}, (∀ u ∈ out, ∃ x, RelV x u ∧ (x, readOf h u) ∈ ps) → ∃ zs qs, Vals zs out ∧ Zp zs (out.map (readOf h)) qs ∧ ∀ p ∈ qs, p ∈ ps
  | [], _ => ⟨[], [], .nil, .nil, fun p m => by cases m⟩
  | u :: out, q => by
    obtain ⟨x, h1, h2⟩ := q u List.mem_cons_self
    obtain ⟨zs, qs, h3, h4, h5⟩ := vals_some fun v hv => q v (List.mem_cons_of_mem _ hv)
    refine ⟨x :: zs, _, .cons h1 h3, .cons h4, fun p m => ?_⟩
    rcases List.mem_cons.mp m with rfl | m
    · exact h2
    · exact h5 p m
theorem vals_dp {h : Heap} : ∀ {ys : List V} {ds : List PyData} {us : List Value} {as : List Addr}, Vals ys us → ReadsAll h us ds as → PyData.canLayAll0 ds = true → ∃ ps, Zp ys ds ps ∧ ∀ u ∈ us, ∃ x, RelV x u ∧ (x, readOf h u) ∈ ps
  | _, [], _, _, r, ra, _ => by
    cases ra
    cases r
    exact ⟨[], .nil, fun u m => by cases m⟩
  | _, d :: ds, _, _, r, ra, c => by
    have c' : d.canLay0 = true ∧ PyData.canLayAll0 ds = true := by simpa [PyData.canLayAll0] using c
    cases ra with
    | cons r1 r2 =>
    cases r with
    | cons v1 v2 =>
    obtain ⟨ps, h1, h2⟩ := vals_dp v2 r2 c'.2
    refine ⟨_, .cons h1, fun u m => ?_⟩
    rcases List.mem_cons.mp m with rfl | m
    · exact ⟨_, v1, by rw [readOf_eq c'.1 r1]; exact List.mem_cons_self⟩
    · obtain ⟨x, h3, h4⟩ := h2 u m
      exact ⟨x, h3, List.mem_cons_of_mem _ h4⟩
theorem RoomG.u66 {k : Nat} {A : Around} (h : RoomG k A) : A.units + 66 < cLine := by
  have := h.r.un
  omega
theorem cr_sort (hu : X.A.units + 66 < cLine) : CallR X (.builtin "sorted") (rSortD X.K) := by
  intro pins s σ H xs us Q I r h
  obtain ⟨a, ys, ds, rfl, hs, hd, hS, q⟩ := h
  obtain ⟨u, rfl, ru⟩ := vals1 r
  obtain rfl : u = Value.ref a := ru
  have fin : ∀ (its : List Value) (as : List Addr), Vals ys its → ys.length ≤ sizeLine → ReadsAll s.heap its ds as → ∀ out : List Value, SrtO.Srtd (ltvK s.heap) out → SrtO.Stb (ltvK s.heap) out its → EP X pins σ Q (.ref (s.heap.objs.size + 1)) { s with heap := sortedAll s.heap its out.toArray } := by
    intro its as rv hz ra out h1 h2
    have c := hS.can
    obtain ⟨ps, g1, g2⟩ := vals_dp rv ra c
    obtain ⟨zs, qs, h3, h4, h5⟩ := vals_some (out := out) fun u hu => g2 u (h2.perm.mem_iff.mp hu)
    obtain ⟨ep, he'⟩ := PyProof.Rows.sortedAll_at s.heap its out.toArray
    refine ⟨.ref _, upd H (s.heap.objs.size + 1) (.lst zs), I.laid (t' := s.toks) (fun _ _ => PyProof.Rows.sortedAll_old) (Nat.le_succ _) ⟨?_, out, ep, h3, he'⟩, rfl, q zs _ _ (SrtO.srtd_map h1) ?_ (fun G hG => h4.dp.mpr fun p m => g1.dp.mp hG p (h5 p m)) (I.hok.fresh (Nat.le_succ _))⟩
    · rw [h3.length, h2.len, ← rv.length]
      exact hz
    · have := SrtO.Stb.map swo_ltK (readOf s.heap) h2
      rw [readsAll_map ds its as c ra] at this
      exact this
  rcases hs with hs | hs
  · obtain ⟨its, rv, hl, hz⟩ := I.list hs
    obtain ⟨as, ra⟩ := Dp.readsAll I ds ys its hd rv
    exact SrtO.sorted_ord (swo_k _) hl.isList (by rw [← rv.length]; exact hz) (fun h2 h₁ a' _ kk => readAll_sortableO ra hS (by show X.A.units + 1 + 1 + 64 < cLine; omega) h2 kk) (fin its as rv hz ra)
  · obtain ⟨its, rv, hl, hz⟩ := I.tuple hs
    obtain ⟨as, ra⟩ := Dp.readsAll I ds ys its hd rv
    exact sorted_tup (swo_k _) hl (by rw [← rv.length]; exact hz) (fun h2 h₁ a' _ kk => readAll_sortableO ra hS (by show X.A.units + 1 + 1 + 64 < cLine; omega) h2 kk) (fin its as rv hz ra)
@[irreducible] def sortedD (ds : List D) (P : R → Prop) : Prop := match ds with
  | [.list xs] => Sortable xs ∧ ∀ es, SrtO.Srtd ltK es → SrtO.Stb ltK es xs → P (.fr es)
  | [.tuple xs] => Sortable xs ∧ ∀ es, SrtO.Srtd ltK es → SrtO.Stb ltK es xs → P (.fr es)
  | _ => False
variable {K : PySem.W.Frag}
theorem on_sort : ON K sortedD (rSortD K) := by
  refine ⟨fun G H vs ds P Q s hv h k => ?_⟩
  unfold sortedD at h
  split at h
  · obtain ⟨v, rfl, hx⟩ := pks1 hv
    obtain ⟨a, vs, rfl, h1, h2⟩ := hx.list s
    exact ⟨a, vs, _, rfl, .inl h1, s.dpa h2, h.1, fun zs es p e1 e2 e3 hl => k _ _ G _ (h.2 es e1 e2) (Gr.own s hl) ⟨p, zs, rfl, upd_same, s.back hl, e3 _ h2, hl⟩⟩
  · obtain ⟨v, rfl, hx⟩ := pks1 hv
    obtain ⟨a, vs, rfl, h1, h2⟩ := hx.tuple s
    exact ⟨a, vs, _, rfl, .inr h1, s.dpa h2, h.1, fun zs es p e1 e2 e3 hl => k _ _ G _ (h.2 es e1 e2) (Gr.own s hl) ⟨p, zs, rfl, upd_same, s.back hl, e3 _ h2, hl⟩⟩
  · exact h.elim
end
end HD


set_option Elab.async false
set_option linter.all false
set_option maxRecDepth 100000
set_option maxHeartbeats 4000000
/-! LB: texts by their code points, for the laws. -/
namespace HD
open PySem PySem.Spec PyProof.Rows L2
theorem line24 : sizeLine = 16777216 := sizeLine_eq
abbrev Wd := List Nat
def sd (w : Wd) : D := .str (SX.S w)
def iD (i : Int) : D := .int i
def Bt (w : Wd) : Prop := ∀ c ∈ w, c = 48 ∨ c = 49
theorem sd_inj {a b : Wd} (h : sd a = sd b) : a = b := SX.S_inj (PyData.str.inj h)
theorem sd_lit (w : Wd) (z : Str) (h : z = SX.S w := by rfl) : PyData.str z = sd w := by rw [h]; rfl
theorem len_sd {w : Wd} {P : R → Prop} (hl : w.length ≤ 16777216) (h : P (.val (.int w.length))) : HN lenD [sd w] P := by
  refine ⟨?_⟩
  show (SX.S w).length ≤ sizeLine ∧ P (.val (.int (SX.S w).length))
  rw [SX.S_len]
  exact ⟨by rw [line24]; exact hl, h⟩
theorem add_sd {a b : Wd} {P : R → Prop} (hl : a.length + b.length ≤ 16777216) (h : P (.val (sd (a ++ b)))) : H2 addD (sd a) (sd b) P := by
  refine ⟨?_⟩
  have e : addD (sd a) (sd b) P = ((SX.S a).length + (SX.S b).length ≤ sizeLine ∧ P (.val (.str (SX.S a ++ SX.S b)))) := by unfold addD; rfl
  rw [e, SX.S_len, SX.S_len, SX.S_cat, line24]
  exact ⟨hl, h⟩
theorem slr_sd {a : Wd} {lo hi : Option Int} {P : R → Prop} (hl : a.length ≤ 16777216) (h : P (.val (sd ((a.drop (HT.sIx a.length 0 lo)).take (HT.sIx a.length a.length hi - HT.sIx a.length 0 lo))))) : HS (sd a) lo hi P := by
  refine ⟨?_⟩
  have e : slD (sd a) lo hi P = ((SX.S a).length ≤ sizeLine ∧ P (.val (.str (cutS (SX.S a) lo hi)))) := by unfold slD; rfl
  rw [e, SX.S_len, line24]
  refine ⟨hl, ?_⟩
  unfold cutS
  rw [SX.S_len]
  exact h
theorem sl_to {a : Wd} {i : Int} {P : R → Prop} (hl : a.length ≤ 16777216) (h0 : 0 ≤ i) (h : P (.val (sd (a.take i.toNat)))) : HS (sd a) none (some i) P := by
  refine slr_sd hl ?_
  have e1 : HT.sIx a.length 0 none = 0 := rfl
  have e2 : HT.sIx a.length a.length (some i) = min i.toNat a.length := if_neg (by omega)
  rw [e1, e2, List.drop_zero, Nat.sub_zero]
  have e3 : a.take (min i.toNat a.length) = a.take i.toNat := by
    rw [← List.take_take, List.take_length]
  rw [e3]
  exact h
theorem sl_from {a : Wd} {i : Int} {P : R → Prop} (hl : a.length ≤ 16777216) (h0 : 0 ≤ i) (h : P (.val (sd (a.drop i.toNat)))) : HS (sd a) (some i) none P := by
  refine slr_sd hl ?_
  have e1 : HT.sIx a.length a.length none = a.length := rfl
  have e2 : HT.sIx a.length 0 (some i) = min i.toNat a.length := if_neg (by omega)
  rw [e1, e2]
  have e3 : (a.drop (min i.toNat a.length)).take (a.length - min i.toNat a.length) = a.drop i.toNat := by
    by_cases g : i.toNat ≤ a.length
    · rw [Nat.min_eq_left g, List.take_of_length_le (by rw [List.length_drop]; exact Nat.le_refl _)]
    · rw [Nat.min_eq_right (by omega), List.drop_eq_nil_of_le (by omega : a.length ≤ i.toNat)]
      simp
  rw [e3]
  exact h
theorem ix_sd {w : Wd} {i : Int} {c : Nat} {P : R → Prop} (hl : w.length ≤ 16777216) (h0 : 0 ≤ i) (hc : w[i.toNat]? = some c) (h : P (.val (sd [c]))) : H2 ixD (sd w) (.int i) P := by
  refine ⟨?_⟩
  have e : ixD (sd w) (.int i) P = ((SX.S w).length ≤ sizeLine ∧ bnd (atI w i) fun c => P (.val (sd [c]))) := by unfold ixD; rfl
  rw [e, SX.S_len, line24]
  refine ⟨hl, bnd_of ?_ h⟩
  have lt : i.toNat < w.length := (List.getElem?_eq_some_iff.mp hc).1
  have e2 : i = ((i.toNat : Nat) : Int) := by omega
  rw [e2]
  exact atI_nat hc
theorem at_d {α : Type} {ds : List α} {i : Int} {d : α} (h0 : 0 ≤ i) (hc : ds[i.toNat]? = some d) : atI ds i = some d := by
  have e2 : i = ((i.toNat : Nat) : Int) := by omega
  rw [e2]
  exact atI_nat hc
theorem ix_list {ds : List D} {i : Int} {d : D} {P : R → Prop} (h0 : 0 ≤ i) (hc : ds[i.toNat]? = some d) (h : P (.val d)) : H2 ixD (.list ds) (.int i) P := by
  refine ⟨?_⟩
  unfold ixD
  exact bnd_of (at_d h0 hc) h
theorem ix_tup {ds : List D} {i : Int} {d : D} {P : R → Prop} (h0 : 0 ≤ i) (hc : ds[i.toNat]? = some d) (h : P (.val d)) : H2 ixD (.tuple ds) (.int i) P := by
  refine ⟨?_⟩
  unfold ixD
  exact bnd_of (at_d h0 hc) h
theorem strs_sd : ∀ ws : List Wd, strs? (ws.map sd) = some (ws.map SX.S)
  | [] => rfl
  | w :: ws => by
    show (strs? (ws.map sd)).map _ = _
    rw [strs_sd ws]
    rfl
theorem joinL_nil : ∀ ws : List Wd, TL.joinL [] ws = ws.flatten
  | [] => rfl
  | [w] => by simp [TL.joinL]
  | w :: v :: ws => by
    rw [TL.joinL, joinL_nil (v :: ws)]
    simp
theorem join_sd {ws : List Wd} {P : R → Prop} (hl : ws.flatten.length ≤ 16777216) (h : P (.val (sd ws.flatten))) : HM joinD (.str (Str.ofString "")) [.list (ws.map sd)] P := by
  refine ⟨?_⟩
  have e : joinD (.str (Str.ofString "")) [.list (ws.map sd)] P = bnd (strs? (ws.map sd)) fun ys => (ys.map (·.length)).sum + ys.length * (SX.S []).length ≤ 16777216 ∧ P (.val (.str (Txt.join (SX.S []) ys))) := by unfold joinD; rfl
  rw [e]
  refine bnd_of (strs_sd ws) ⟨?_, ?_⟩
  · rw [SX.lens, SX.S_len]
    rw [List.length_flatten] at hl
    simpa using hl
  · rw [SX.join_S, joinL_nil]
    exact h
theorem eqv_sd {a b : Wd} : PyData.eqv (sd a) (sd b) = decide (a = b) := by
  have e : PyData.eqv (sd a) (sd b) = (SX.S a == SX.S b) := by simp [sd, PyData.eqv]
  rw [e, SX.S_beq_eq]
theorem eq_sd {a b : Wd} {P : R → Prop} (h : P (.val (.bool (decide (a = b))))) : H2 eqD (sd a) (sd b) P := by
  refine ⟨?_⟩
  have e : eqD (sd a) (sd b) P = P (.val (.bool (decide (SX.S a = SX.S b)))) := by unfold eqD; rfl
  rw [e, show decide (SX.S a = SX.S b) = decide (a = b) from decide_eq_decide.mpr ⟨SX.S_inj, fun h => by rw [h]⟩]
  exact h
theorem ne_sd {a b : Wd} {P : R → Prop} (h : P (.val (.bool (!decide (a = b))))) : H2 neD (sd a) (sd b) P := by
  refine ⟨?_⟩
  have e : neD (sd a) (sd b) P = P (.val (.bool (!decide (SX.S a = SX.S b)))) := by unfold neD; rfl
  rw [e, show decide (SX.S a = SX.S b) = decide (a = b) from decide_eq_decide.mpr ⟨SX.S_inj, fun h => by rw [h]⟩]
  exact h
theorem inB_sd {a : Wd} : ∀ {ws : List Wd}, inB (sd a) (ws.map sd) = decide (a ∈ ws)
  | [] => rfl
  | w :: ws => by
    have ih := inB_sd (a := a) (ws := ws)
    unfold inB at ih ⊢
    rw [List.map_cons, List.any_cons, ih, eqv_sd]
    by_cases e : w = a <;> by_cases e2 : a ∈ ws <;> simp [e, e2, eq_comm]
    exact fun h => e h.symm
theorem items_sd (w : Wd) : itemsOf (sd w) = some (w.map fun c => sd [c]) := rfl
theorem add_i {a b : Int} {P : R → Prop} (h : P (.val (.int (a + b)))) : H2 addD (.int a) (.int b) P := by
  refine ⟨?_⟩
  unfold addD
  exact h
theorem add_l {a b : List D} {P : R → Prop} (hl : a.length + b.length ≤ 16777216) (h : P (.fr (a ++ b))) : H2 addD (.list a) (.list b) P := by
  refine ⟨?_⟩
  unfold addD
  exact ⟨by rw [line24]; exact hl, h⟩
theorem eq_i {a b : Int} {P : R → Prop} (h : P (.val (.bool (decide (a = b))))) : H2 eqD (.int a) (.int b) P := by
  refine ⟨?_⟩
  unfold eqD
  exact h
theorem ne_i {a b : Int} {P : R → Prop} (h : P (.val (.bool (!decide (a = b))))) : H2 neD (.int a) (.int b) P := by
  refine ⟨?_⟩
  unfold neD
  exact h
theorem eq_t {a : List D} {d : D} {P : R → Prop} (ha : okD (.tuple a)) (hb : okD d) (h : P (.val (.bool (PyData.eqv (.tuple a) d)))) : H2 eqD (.tuple a) d P := by
  refine ⟨?_⟩
  unfold eqD
  exact ⟨ha, hb, h⟩
theorem in_l {n : Bool} {x : D} {ds : List D} {P : R → Prop} (ha : okD x) (hb : okD (.list ds)) (h : P (.val (.bool (if n then !inB x ds else inB x ds)))) : H2 (inD n) x (.list ds) P := by
  refine ⟨?_⟩
  unfold inD
  exact ⟨ha, hb, h⟩
theorem in_t {n : Bool} {x : D} {ds : List D} {P : R → Prop} (ha : okD x) (hb : okD (.tuple ds)) (h : P (.val (.bool (if n then !inB x ds else inB x ds)))) : H2 (inD n) x (.tuple ds) P := by
  refine ⟨?_⟩
  unfold inD
  exact ⟨ha, hb, h⟩
theorem sl_l {xs : List D} {lo hi : Option Int} {P : R → Prop} (h : P (.fr (cutD xs lo hi))) : HS (.list xs) lo hi P := by
  refine ⟨?_⟩
  unfold slD
  exact h
theorem sort_l {xs : List D} {P : R → Prop} (h : Sortable xs) (k : ∀ es, SrtO.Srtd ltK es → SrtO.Stb ltK es xs → P (.fr es)) : HN sortedD [.list xs] P := by
  refine ⟨?_⟩
  unfold sortedD
  exact ⟨h, k⟩
theorem sort_t {xs : List D} {P : R → Prop} (h : Sortable xs) (k : ∀ es, SrtO.Srtd ltK es → SrtO.Stb ltK es xs → P (.fr es)) : HN sortedD [.tuple xs] P := by
  refine ⟨?_⟩
  unfold sortedD
  exact ⟨h, k⟩
/-! what may be compared -/
def Asc (w : Wd) : Prop := ∀ c ∈ w, c < 128
theorem Bt.asc {w : Wd} (h : Bt w) : Asc w := fun c hc => by rcases h c hc with rfl | rfl <;> decide
theorem Asc.ok {n : Nat} {w : Wd} (h : Asc w) : Ok n (sd w) := Ok.str fun c hc => Nat.lt_trans (h c hc) (by decide)
theorem Bt.ok {n : Nat} {w : Wd} (h : Bt w) : Ok n (sd w) := h.asc.ok
theorem Asc.sw {n m : Nat} {w : Wd} (h : Asc w) (hl : w.length ≤ m) : Sw n (10 * m + 2) (sd w) := Sw.str (fun c hc => Nat.lt_trans (h c hc) (by decide)) (by rw [SX.S_len]; exact hl)
theorem Bt.sw {n m : Nat} {w : Wd} (h : Bt w) (hl : w.length ≤ m) : Sw n (10 * m + 2) (sd w) := h.asc.sw hl
theorem Bt.cons {c : Nat} {w : Wd} (hc : c = 48 ∨ c = 49) (h : Bt w) : Bt (c :: w) := fun x hx => by
  rcases List.mem_cons.mp hx with rfl | hx
  · exact hc
  · exact h x hx
theorem Bt.app {u w : Wd} (h : Bt u) (h2 : Bt w) : Bt (u ++ w) := fun x hx => by
  rcases List.mem_append.mp hx with hx | hx
  · exact h x hx
  · exact h2 x hx
theorem Bt.sub {u w : Wd} (h : Bt w) (s : ∀ c ∈ u, c ∈ w) : Bt u := fun c hc => h c (s c hc)
theorem Bt.take {w : Wd} (n : Nat) (h : Bt w) : Bt (w.take n) := h.sub fun _ => List.mem_of_mem_take
theorem Bt.drop {w : Wd} (n : Nat) (h : Bt w) : Bt (w.drop n) := h.sub fun _ => List.mem_of_mem_drop
theorem Bt.flat {ws : List Wd} (h : ∀ w ∈ ws, Bt w) : Bt ws.flatten := fun c hc => by
  obtain ⟨w, h1, h2⟩ := List.mem_flatten.mp hc
  exact h w h1 c h2
theorem Bt.get {w : Wd} (h : Bt w) {i c : Nat} (e : w[i]? = some c) : c = 48 ∨ c = 49 := h c (List.mem_of_getElem? e)
theorem get_of {α : Type} {l : List α} {i : Nat} (h : i < l.length) : ∃ c, l[i]? = some c := ⟨_, List.getElem?_eq_getElem h⟩
theorem okList {n : Nat} {ds : List D} (h : ∀ d ∈ ds, Ok n d) (hn : n ≤ 60 := by decide) : okD (.list ds) := (Ok.lst h).okD (by omega)
theorem okWords {ws : List Wd} (h : ∀ w ∈ ws, Bt w) : okD (.list (ws.map sd)) := okList (n := 1) fun d hd => by
  obtain ⟨w, hw, rfl⟩ := List.mem_map.mp hd
  exact (h w hw).ok
theorem flat_len1 : ∀ {ws : List Wd}, (∀ w ∈ ws, w.length = 1) → ws.flatten.length = ws.length
  | [], _ => rfl
  | w :: ws, h => by
    rw [List.flatten_cons, List.length_append, h w List.mem_cons_self, flat_len1 fun v hv => h v (List.mem_cons_of_mem _ hv), List.length_cons]
    omega
/-! ### the law's stream of numbers -/
def Strm (xs : List D) : Prop := xs ≠ [] ∧ ∀ d ∈ xs, ∃ i, d = .int i
end HD


set_option Elab.async false
set_option linter.all false
set_option maxRecDepth 100000
set_option maxHeartbeats 4000000
/-! HDX: a dict of lists of texts that one def builds and leaves. -/
namespace HD
open PySem PySem.Spec PyProof.Rows L2
section
variable {K : PySem.W.Frag} {c : C0} {e : List Sl} {G H H' : Hp} {σ : L2.St}
def C0.withP (c : C0) (P : List (Addr × HO)) : C0 := { c with pins := P }
theorem SR.repins {P : List (Addr × HO)} (S : SR K c e G σ H) (hx : ∀ b, H' b = H b ∨ (∃ p ∈ c.pins, p.1 = b) ∨ H b = none) (hm : ∀ b o, H b = some o → ∃ o', H' b = some o')
    (hp : ∀ q ∈ P, H' q.1 = some q.2 ∧ ((∃ p ∈ c.pins, p.1 = q.1) ∨ H q.1 = none)) (nd : (P.map (·.1)).Nodup) : SR K (c.withP P) e G σ H' := by
  have off : ∀ b o, H b = some o → (∀ p ∈ c.pins, p.1 ≠ b) → H' b = some o := fun b o h n => by
    rcases hx b with h1 | ⟨p, hp, h1⟩ | h1
    · rw [h1]; exact h
    · exact absurd h1 (n p hp)
    · rw [h1] at h; cases h
  have n0 : ∀ b o, c.H0 b = some o → ∀ p ∈ c.pins, p.1 ≠ b := fun b o h p hp z => by
    have := (S.pin p hp).2.2.1
    rw [z, h] at this
    cases this
  refine ⟨fun b o h => off b o (S.sub b o h) fun p hp z => ?_, fun b o h n => off b o (S.keep b o h n) (n0 b o h), S.gk, fun b o h => ?_, S.ioh, S.len, S.sh, fun i xs hi => ?_, S.inj, S.io, fun q hq => ?_, nd⟩
  · have := (S.pin p hp).2.1
    rw [z, h] at this
    cases this
  · obtain ⟨o', h1⟩ := S.dom b o h
    exact hm b o' h1
  · obtain ⟨a, vs, q, r, n, d, z⟩ := S.ol i xs hi
    exact ⟨a, vs, q, off a _ r fun p hp z => (S.pin p hp).2.2.2 i xs hi (by rw [q, z]), n, d, z⟩
  · obtain ⟨h1, h2⟩ := hp q hq
    rcases h2 with ⟨p, hp, h2⟩ | h2
    · obtain ⟨a1, a2, a3, a4⟩ := S.pin p hp
      rw [h2] at a2 a3 a4
      exact ⟨h1, a2, a3, a4⟩
    · refine ⟨h1, S.sub.back h2, ?_, fun i xs hi hs => ?_⟩
      · cases h0 : c.H0 q.1 with
        | none => exact h0
        | some o =>
          obtain ⟨o', h3⟩ := S.dom _ _ h0
          rw [h2] at h3
          cases h3
      · obtain ⟨a, us, q', r', _⟩ := S.ol i xs hi
        rw [hs] at q'
        cases q'
        rw [h2] at r'
        cases r'
/-! ### the dict, its lists -/
abbrev Gp := List (Wd × Addr × List Wd)
def vS (w : Wd) : V := .str (SX.S w)
def ent (t : Wd × Addr × List Wd) : Key × V := (.inr (SX.S t.1), .ref t.2.1)
def pl (t : Wd × Addr × List Wd) : Addr × HO := (t.2.1, .lst (t.2.2.map vS))
def pG (P0 : List (Addr × HO)) (p : Addr) (g : Gp) : List (Addr × HO) := (p, .dK (g.map ent)) :: (g.map pl ++ P0)
structure StG (K : PySem.W.Frag) (c : C0) (p : Addr) (g : Gp) (e : List Sl) (G : Hp) (σ : L2.St) (H : Hp) : Prop where
  s : SR K (c.withP (pG c.pins p g)) e G σ H
  v : σ[3]? = some (some (.ref p))
  k : (g.map (·.1)).Nodup
  l : g.length ≤ 1000
variable {p : Addr} {g g1 g2 : Gp}
theorem StG.dict (S : StG K c p g e G σ H) : H p = some (.dK (g.map ent)) := (S.s.pin _ List.mem_cons_self).1
theorem StG.list (S : StG K c p g e G σ H) {t : Wd × Addr × List Wd} (h : t ∈ g) : H t.2.1 = some (.lst (t.2.2.map vS)) :=
  (S.s.pin (pl t) (List.mem_cons_of_mem _ (List.mem_append_left _ (List.mem_map.mpr ⟨t, h, rfl⟩)))).1
theorem val_some {g1 g2 : Gp} {t : Wd × Addr × List Wd} (h : ∀ u ∈ g1, u.1 ≠ t.1) : valV ((g1 ++ t :: g2).map ent) (.inr (SX.S t.1)) = some (.ref t.2.1) := by
  induction g1 with
  | nil => exact valV_pos rfl
  | cons u g1 ih =>
    rw [List.cons_append, List.map_cons, valV_neg fun z => h u List.mem_cons_self (SX.S_inj (Sum.inr.inj z))]
    exact ih fun v hv => h v (List.mem_cons_of_mem _ hv)
theorem val_none {g : Gp} {k : Wd} (h : ∀ u ∈ g, u.1 ≠ k) : valV (g.map ent) (.inr (SX.S k)) = none := by
  induction g with
  | nil => rfl
  | cons u g ih =>
    rw [List.map_cons, valV_neg fun z => h u List.mem_cons_self (SX.S_inj (Sum.inr.inj z))]
    exact ih fun v hv => h v (List.mem_cons_of_mem _ hv)
theorem key_split {g : Gp} {k : Wd} (hn : (g.map (·.1)).Nodup) : (∃ g1 a l g2, g = g1 ++ (k, a, l) :: g2 ∧ ∀ u ∈ g1, u.1 ≠ k) ∨ ∀ u ∈ g, u.1 ≠ k := by
  by_cases h : ∃ u ∈ g, u.1 = k
  · obtain ⟨u, hu, rfl⟩ := h
    obtain ⟨g1, g2, rfl⟩ := List.append_of_mem hu
    refine .inl ⟨g1, u.2.1, u.2.2, g2, rfl, fun v hv z => ?_⟩
    rw [List.map_append, List.map_cons] at hn
    exact (List.nodup_append.mp hn).2.2 _ (List.mem_map.mpr ⟨v, hv, z⟩) _ List.mem_cons_self rfl
  · exact .inr fun u hu z => h ⟨u, hu, z⟩
/-- d.setdefault(k, []) -/
theorem setd_step {sk : TED} {k : Wd} {Q : VK} (S : StG K c p g e G σ H) (hio : c.ios = []) (hl : g.length < 1000) (hk : ∀ P : R → List Sl → Prop, P (.val (sd k)) e → sk e P)
    (q : ∀ g1 a l g2 G' H', (g = g1 ++ (k, a, l) :: g2 ∨ (g = g1 ∧ g2 = [] ∧ l = [] ∧ ∀ u ∈ g, u.1 ≠ k)) → Ex G G' → StG K c p (g1 ++ (k, a, l) :: g2) e G' σ H' → Q (.ref a) H') : tDSetd (tVar 3) (XofE K [] sk) (tLst tNil) σ H Q := by
  refine ⟨.ref p, S.v, p, rfl, .inl ⟨_, .inl S.dict⟩, c.withP (pG c.pins p g), hio, e, G, fun r e' => r = .val (sd k) ∧ e' = e, S.s, hk _ ⟨rfl, rfl⟩, ?_⟩
  rintro r e' v G' H1 ⟨rfl, rfl⟩ ex S1 rr
  have hv : v = vS k := by
    cases (show Dp K G' v (sd k) from rr)
    rfl
  refine ⟨by rw [line24]; exact Nat.zero_le _, fun n hn => ?_⟩
  have S1' : StG K c p g e' G' σ H1 := ⟨S1, S.v, S.k, S.l⟩
  have S2 : SR K (c.withP (pG c.pins p g)) e' G' σ (upd H1 n (.lst [])) := S1.grow (Gr.own S1.sub hn)
  have S2' : StG K c p g e' G' σ (upd H1 n (.lst [])) := ⟨S2, S.v, S.k, S.l⟩
  refine ⟨g.map ent, .inr (SX.S k), S2'.dict, hv, by rw [line24, List.length_map]; omega, fun v' hv' => ?_, fun hv' => ?_⟩
  · rcases key_split (k := k) S.k with ⟨g1, a, l, g2, rfl, hg⟩ | h
    · have e1 := val_some (t := (k, a, l)) (g2 := g2) hg
      rw [hv'] at e1
      cases e1
      exact q g1 a l g2 G' _ (.inl rfl) ex S2'
    · rw [val_none h] at hv'
      cases hv'
  · rcases key_split (k := k) S.k with ⟨g1, a, l, g2, rfl, hg⟩ | h
    · rw [val_some (t := (k, a, l)) (g2 := g2) hg] at hv'
      cases hv'
    · have np : n ≠ p := fun z => by
        rw [z, S1'.dict] at hn
        cases hn
      rw [putK_new _ (val_none h)]
      refine q g n [] [] G' _ (.inr ⟨rfl, rfl, rfl, h⟩) ex ⟨?_, S.v, ?_, by simp; omega⟩
      · have pins : ∀ x ∈ pG c.pins p g, H1 x.1 = some x.2 := fun x hx => (S1.pin x hx).1
        refine SR.repins (c := c.withP (pG c.pins p g)) (P := pG c.pins p (g ++ [(k, n, [])])) S1 (fun b => ?_) (fun b o h => ?_) (fun x hx => ?_) ?_
        · by_cases b1 : b = p
          · subst b1
            exact .inr (.inl ⟨_, List.mem_cons_self, rfl⟩)
          · rw [upd_ne b1]
            by_cases b2 : b = n
            · subst b2
              exact .inr (.inr hn)
            · rw [upd_ne b2]
              exact .inl rfl
        · by_cases b1 : b = p
          · rw [b1]; exact ⟨_, upd_same⟩
          · by_cases b2 : b = n
            · rw [b2, upd_ne np]; exact ⟨_, upd_same⟩
            · rw [upd_ne b1, upd_ne b2]; exact ⟨o, h⟩
        · have old : ∀ x ∈ pG c.pins p g, x.1 ≠ p → (upd (upd H1 n (.lst [])) p (.dK (g.map ent ++ [(.inr (SX.S k), .ref n)]))) x.1 = some x.2 ∧ ((∃ y ∈ (c.withP (pG c.pins p g)).pins, y.1 = x.1) ∨ H1 x.1 = none) := fun x hx hne => by
            have h1 := pins x hx
            refine ⟨?_, .inl ⟨x, hx, rfl⟩⟩
            rw [upd_ne hne, upd_ne fun z => by rw [z, hn] at h1; cases h1]
            exact h1
          have nd := S1.pnd
          have nd : ((pG c.pins p g).map (·.1)).Nodup := nd
          have hd : ∀ x ∈ g.map pl ++ c.pins, x.1 ≠ p := fun x hx z => (List.nodup_cons.mp nd).1 (List.mem_map.mpr ⟨x, hx, z⟩)
          rcases List.mem_cons.mp hx with rfl | hx
          · exact ⟨by rw [List.map_append]; exact upd_same, .inl ⟨_, List.mem_cons_self, rfl⟩⟩
          · rcases List.mem_append.mp hx with hx | hx
            · rw [List.map_append] at hx
              rcases List.mem_append.mp hx with hx | hx
              · have := List.mem_append_left c.pins hx
                exact old x (List.mem_cons_of_mem _ this) (hd x this)
              · rw [List.map_cons, List.map_nil, List.mem_singleton] at hx
                subst hx
                refine ⟨?_, .inr hn⟩
                show upd (upd H1 n (.lst [])) p _ n = some (.lst [])
                rw [upd_ne np]
                exact upd_same
            · have := List.mem_append_right (g.map pl) hx
              exact old x (List.mem_cons_of_mem _ this) (hd x this)
        · have nd : ((pG c.pins p g).map (·.1)).Nodup := S1.pnd
          have e5 : (pG c.pins p (g ++ [(k, n, [])])).map (·.1) = p :: ((g.map pl).map (·.1) ++ n :: c.pins.map (·.1)) := by simp [pG, pl]
          have e6 : (pG c.pins p g).map (·.1) = p :: ((g.map pl).map (·.1) ++ c.pins.map (·.1)) := by simp [pG]
          have hnn : n ∉ (pG c.pins p g).map (·.1) := fun m => by
            obtain ⟨x, hx, z⟩ := List.mem_map.mp m
            have := pins x hx
            rw [show x.1 = n from z, hn] at this
            cases this
          rw [e5]
          rw [e6] at nd hnn
          exact (List.Perm.trans (List.Perm.cons _ List.perm_middle) (List.Perm.swap _ _ _)).nodup_iff.mpr (List.nodup_cons.mpr ⟨hnn, nd⟩)
      · rw [List.map_append]
        refine List.nodup_append.mpr ⟨S.k, by simp, fun a ha b hb z => ?_⟩
        obtain ⟨u, hu, rfl⟩ := List.mem_map.mp ha
        have : b = k := by simpa using hb
        exact h u hu (z.trans this)
/-- the list that stands at k, one longer -/
theorem app_step {k w : Wd} {a : Addr} {l : List Wd} (S : StG K c p (g1 ++ (k, a, l) :: g2) e G σ H) : StG K c p (g1 ++ (k, a, l ++ [w]) :: g2) e G σ (upd H a (.lst (l.map vS ++ [vS w]))) := by
  have hm : (k, a, l) ∈ g1 ++ (k, a, l) :: g2 := List.mem_append_right _ List.mem_cons_self
  have nd : ((pG c.pins p (g1 ++ (k, a, l) :: g2)).map (·.1)).Nodup := S.s.pnd
  have pins : ∀ x ∈ pG c.pins p (g1 ++ (k, a, l) :: g2), H x.1 = some x.2 := fun x hx => (S.s.pin x hx).1
  have ha := S.list hm
  have e1 : (g1 ++ (k, a, l ++ [w]) :: g2).map ent = (g1 ++ (k, a, l) :: g2).map ent := by simp [ent]
  have e2 : (pG c.pins p (g1 ++ (k, a, l ++ [w]) :: g2)).map (·.1) = (pG c.pins p (g1 ++ (k, a, l) :: g2)).map (·.1) := by simp [pG, pl]
  have hin : pl (k, a, l) ∈ pG c.pins p (g1 ++ (k, a, l) :: g2) := List.mem_cons_of_mem _ (List.mem_append_left _ (List.mem_map.mpr ⟨_, hm, rfl⟩))
  refine ⟨SR.repins (c := c.withP (pG c.pins p (g1 ++ (k, a, l) :: g2))) (P := pG c.pins p (g1 ++ (k, a, l ++ [w]) :: g2)) S.s (fun b => ?_) (fun b o h => ?_) (fun x hx => ?_) (by rw [e2]; exact nd), S.v, by simpa using S.k, by simpa using S.l⟩
  · by_cases b1 : b = a
    · subst b1
      exact .inr (.inl ⟨_, hin, rfl⟩)
    · rw [upd_ne b1]; exact .inl rfl
  · by_cases b1 : b = a
    · rw [b1]; exact ⟨_, upd_same⟩
    · rw [upd_ne b1]; exact ⟨o, h⟩
  · have hmem : ∃ y ∈ pG c.pins p (g1 ++ (k, a, l) :: g2), y.1 = x.1 := by
      have : x.1 ∈ (pG c.pins p (g1 ++ (k, a, l) :: g2)).map (·.1) := by
        rw [← e2]
        exact List.mem_map.mpr ⟨x, hx, rfl⟩
      obtain ⟨y, h1, h2⟩ := List.mem_map.mp this
      exact ⟨y, h1, h2⟩
    refine ⟨?_, .inl hmem⟩
    by_cases hxa : x.1 = a
    · have : x = (a, .lst ((l ++ [w]).map vS)) := by
        have nd2 : ((pG c.pins p (g1 ++ (k, a, l ++ [w]) :: g2)).map (·.1)).Nodup := by rw [e2]; exact nd
        have h2 : pl (k, a, l ++ [w]) ∈ pG c.pins p (g1 ++ (k, a, l ++ [w]) :: g2) := List.mem_cons_of_mem _ (List.mem_append_left _ (List.mem_map.mpr ⟨_, List.mem_append_right _ List.mem_cons_self, rfl⟩))
        have inj : ∀ {L : List (Addr × HO)}, (L.map (·.1)).Nodup → ∀ {x y}, x ∈ L → y ∈ L → x.1 = y.1 → x = y := by
          intro L hL x y hx hy hxy
          induction L with
          | nil => cases hx
          | cons z L ih =>
            rw [List.map_cons, List.nodup_cons] at hL
            rcases List.mem_cons.mp hx with h1 | h1 <;> rcases List.mem_cons.mp hy with h2 | h2
            · rw [h1, h2]
            · exact (hL.1 (List.mem_map.mpr ⟨y, h2, by rw [← hxy, h1]⟩)).elim
            · exact (hL.1 (List.mem_map.mpr ⟨x, h1, by rw [hxy, h2]⟩)).elim
            · exact ih hL.2 h1 h2
        exact inj nd2 hx h2 hxa
      rw [this]
      show upd H a _ a = _
      rw [upd_same, List.map_append]
      rfl
    · rw [upd_ne hxa]
      rcases List.mem_cons.mp hx with rfl | hx
      · rw [e1]
        exact S.dict
      · rcases List.mem_append.mp hx with hx | hx
        · obtain ⟨t, ht, rfl⟩ := List.mem_map.mp hx
          refine S.list ?_
          rcases List.mem_append.mp ht with ht | ht
          · exact List.mem_append_left _ ht
          · rcases List.mem_cons.mp ht with rfl | ht
            · exact absurd rfl hxa
            · exact List.mem_append_right _ (List.mem_cons_of_mem _ ht)
        · exact pins x (List.mem_cons_of_mem _ (List.mem_append_right _ hx))
end
end HD


set_option Elab.async false
set_option linter.all false
set_option maxRecDepth 100000
set_option maxHeartbeats 4000000
namespace HD
open PySem PySem.Spec PyProof.Rows L2
def XofI (K : PySem.W.Frag) (io : List Nat) (it : TID) : TI := fun σ H Q => ∃ c : C0, c.ios = io ∧ TofI K c it σ H Q
section
variable {X : Cx}
theorem PID.x {io : List Nat} {tg x : Expr} {it : TID} (h : PID X io tg x it) : PI X tg x (XofI X.K io it) := ⟨fun pins s σ H Q I ⟨c, hc, q⟩ => (h.pi c hc).run pins s σ H Q I q⟩
end
section
variable {K : PySem.W.Frag} {c : C0} {e : List Sl} {G H : Hp} {σ : L2.St} {p : Addr} {g : Gp}
theorem dpa_words : ∀ l : List Wd, DpAll K G (l.map vS) (l.map sd)
  | [] => .nil
  | w :: l => .cons (.str _) (dpa_words l)
theorem StG.putD (S : StG K c p g e G σ H) (hio : c.ios = []) {j : Nat} {v : V} {d : D} (hj : j ≠ 3) (h : Dp K G v d) : StG K c p g (e.set j (.sh d)) G (σ.set j (some v)) H :=
  ⟨S.s.putD (by show j ∉ c.ios; rw [hio]; exact List.not_mem_nil) h, by rw [List.getElem?_set_ne hj]; exact S.v, S.k, S.l⟩
theorem StG.putUn (S : StG K c p g e G σ H) (hio : c.ios = []) {j : Nat} {v : Option V} (hj : j ≠ 3) : StG K c p g (e.set j .un) G (σ.set j v) H :=
  ⟨S.s.setUn (by show j ∉ c.ios; rw [hio]; exact List.not_mem_nil), by rw [List.getElem?_set_ne hj]; exact S.v, S.k, S.l⟩
/-- one word put where it goes -/
def Stp (f : Wd → Wd) (g : Gp) (w : Wd) (g' : Gp) : Prop := ∃ g1 a l g2, (g = g1 ++ (f w, a, l) :: g2 ∨ (g = g1 ∧ g2 = [] ∧ l = [] ∧ ∀ u ∈ g, u.1 ≠ f w)) ∧ g' = g1 ++ (f w, a, l ++ [w]) :: g2
structure GInv (f : Wd → Wd) (ts : List Wd) (g : Gp) : Prop where
  a : ∀ t ∈ g, t.2.2 = ts.filter (fun w => decide (f w = t.1)) ∧ ∃ w ∈ ts, f w = t.1
  b : ∀ w ∈ ts, ∃ t ∈ g, t.1 = f w
theorem Stp.len {f : Wd → Wd} {g g' : Gp} {w : Wd} (h : Stp f g w g') : g'.length ≤ g.length + 1 := by
  obtain ⟨g1, a, l, g2, h | ⟨h, h2, _⟩, rfl⟩ := h
  · subst h
    simp
  · subst h
    simp [h2]
theorem Stp.inv {f : Wd → Wd} {g g' : Gp} {w : Wd} {ts : List Wd} (h : Stp f g w g') (i : GInv f ts g) (nd : (g'.map (·.1)).Nodup) : GInv f (ts ++ [w]) g' := by
  obtain ⟨g1, a, l, g2, h, rfl⟩ := h
  have other : ∀ t ∈ g1 ++ g2, t.1 ≠ f w := by
    have p1 : (g1 ++ (f w, a, l ++ [w]) :: g2).Perm ((f w, a, l ++ [w]) :: (g1 ++ g2)) := List.perm_middle
    have := (p1.map (·.1)).nodup_iff.mp nd
    rw [List.map_cons, List.nodup_cons] at this
    exact fun t ht z => this.1 (List.mem_map.mpr ⟨t, ht, z⟩)
  have sub : ∀ t ∈ g1 ++ g2, t ∈ g := by
    intro t ht
    rcases h with rfl | ⟨rfl, rfl, _⟩
    · rcases List.mem_append.mp ht with h | h
      · exact List.mem_append_left _ h
      · exact List.mem_append_right _ (List.mem_cons_of_mem _ h)
    · simpa using ht
  have hl : l = ts.filter fun u => decide (f u = f w) := by
    rcases h with rfl | ⟨rfl, rfl, rfl, hn⟩
    · exact (i.a _ (List.mem_append_right _ List.mem_cons_self)).1
    · refine (List.filter_eq_nil_iff.mpr fun u hu => ?_).symm
      obtain ⟨t, ht, e⟩ := i.b u hu
      have := hn t ht
      rw [e] at this
      simpa using this
  refine ⟨fun t ht => ?_, fun u hu => ?_⟩
  · have hc : t = (f w, a, l ++ [w]) ∨ t ∈ g1 ++ g2 := by
      rcases List.mem_append.mp ht with h | h
      · exact .inr (List.mem_append_left _ h)
      · rcases List.mem_cons.mp h with h | h
        · exact .inl h
        · exact .inr (List.mem_append_right _ h)
    rcases hc with rfl | hc
    · refine ⟨?_, w, by simp, rfl⟩
      rw [List.filter_append, hl]
      simp
    · obtain ⟨h1, u, h2, h3⟩ := i.a t (sub t hc)
      refine ⟨?_, u, List.mem_append_left _ h2, h3⟩
      rw [List.filter_append, ← h1]
      have := other t hc
      have hne : ¬ f w = t.1 := fun z => this z.symm
      simp [hne]
  · rcases List.mem_append.mp hu with hu | hu
    · obtain ⟨t, ht, e⟩ := i.b u hu
      rcases h with rfl | ⟨rfl, rfl, _⟩
      · rcases List.mem_append.mp ht with h | h
        · exact ⟨t, List.mem_append_left _ h, e⟩
        · rcases List.mem_cons.mp h with h | h
          · exact ⟨_, List.mem_append_right _ List.mem_cons_self, by rw [← e, h]⟩
          · exact ⟨t, List.mem_append_right _ (List.mem_cons_of_mem _ h), e⟩
      · exact ⟨t, List.mem_append_left _ ht, e⟩
    · rw [List.mem_singleton.mp hu]
      exact ⟨_, List.mem_append_right _ List.mem_cons_self, rfl⟩
/-- for word in ..: each put where it goes -/
theorem groups_for {f : Wd → Wd} {it : TID} {tb : TS} {De : Ends} {SS : List Wd → Prop} {Wp : Wd → Prop} {EO : List Sl → Prop} (hio : c.ios = []) (S : StG K c p [] e G σ H) (he : EO e) (hss : ∀ ss, SS ss → ss.length ≤ 500 ∧ ∀ w ∈ ss, Wp w)
    (hit : ∀ P : List D → List Sl → Prop, (∀ ss, SS ss → P (ss.map sd) e) → it e P) (hset : ∀ e (w : Wd), EO e → EO (e.set 4 (.sh (sd w))))
    (hb : ∀ (g : Gp) (e : List Sl) (G : Hp) (σ : L2.St) (H : Hp) (w : Wd) (D2 : Ends), Wp w → g.length ≤ 500 ∧ (∀ t ∈ g, t.2.2.length ≤ 500) → EO e → e[4]? = some (.sh (sd w)) → StG K c p g e G σ H → (∀ g' e' G' σ' H', Stp f g w g' → EO e' → Ex G G' → StG K c p g' e' G' σ' H' → D2.nx σ' H') → tb D2 σ H)
    (h4 : ∀ e, EO e → 4 < e.length)
    (done : ∀ ss g e' G' σ' H', SS ss → GInv f ss g → EO e' → Ex G G' → StG K c p g e' G' σ' H' → De.nx σ' H') : tFor (XofI K [] it) (gName 4) tb De σ H := by
  refine ⟨c.withP (pG c.pins p []), hio, e, G, fun xs e' => ∃ ss, SS ss ∧ xs = ss.map sd ∧ e' = e, S.s, hit _ fun ss hs => ⟨ss, hs, rfl, rfl⟩, ?_⟩
  rintro xs e' G1 H1 J ⟨ss, hS, rfl, rfl⟩ ex1 S1 w
  obtain ⟨hsl, hsw⟩ := hss ss hS
  refine ⟨fun i m σ' H' => ∃ g e' G', m = ss.length - i ∧ i ≤ ss.length ∧ GInv f (ss.take i) g ∧ g.length ≤ i ∧ EO e' ∧ Ex G1 G' ∧ StG K c p g e' G' σ' H', ⟨_, [], e', G1, rfl, Nat.zero_le _, ⟨fun t ht => (by cases ht), fun t ht => (by cases ht)⟩, Nat.zero_le _, he, Ex.refl, ⟨S1, S.v, S.k, S.l⟩⟩, ?_⟩
  rintro i m σ' H' ⟨g, e2, G2, rfl, hi, hg, hgl, he2, ex2, S2⟩
  have lenm : (ss.map sd).length = ss.length := List.length_map _
  by_cases hlt : i < ss.length
  · refine .inr ⟨w.go i G2 H' ex2 S2.s.sub (by omega), fun σ2 H2 => ∃ g e' G', GInv f (ss.take (i + 1)) g ∧ g.length ≤ i + 1 ∧ EO e' ∧ Ex G1 G' ∧ StG K c p g e' G' σ2 H2, fun σ2 H2 ⟨g', e', G', a1, a2, a3, a4, a5⟩ => ⟨_, by omega, g', e', G', rfl, hlt, a1, a2, a3, a4, a5⟩, fun x H3 y => ?_⟩
    obtain ⟨G3, d, gr, hd, dp⟩ := w.yld i x G2 H' H3 ex2 S2.s.sub (by omega) y
    rw [List.getElem?_map, List.getElem?_eq_getElem hlt] at hd
    cases hd
    have S3 : StG K c p g e2 G3 σ' H3 := ⟨S2.s.grow gr, S2.v, S2.k, S2.l⟩
    have S4 := S3.putD hio (j := 4) (by decide) dp
    refine hb g _ G3 _ H3 ss[i] _ (hsw _ (List.getElem_mem hlt)) ⟨by omega, fun t ht => by
      rw [(hg.a t ht).1]
      refine Nat.le_trans (List.length_filter_le _ _) ?_
      rw [List.length_take]
      omega⟩ (hset _ _ he2) (List.getElem?_set_self (h4 _ he2)) S4 fun g' e' G' σ3 H4 st eo ex S5 => ?_
    have etk : ss.take (i + 1) = ss.take i ++ [ss[i]] := by rw [List.take_add_one, List.getElem?_eq_getElem hlt]; rfl
    have sl := st.len
    exact ⟨g', e', G', by rw [etk]; exact st.inv hg S5.k, by omega, eo, (ex2.trans gr.g).trans ex, S5⟩
  · have e2' : i = ss.length := by omega
    subst e2'
    rw [List.take_length] at hg
    exact .inl ⟨w.stop ss.length G2 H' ex2 S2.s.sub (by omega), done ss g e2 G2 σ' H' hS hg he2 (ex1.trans ex2) S2⟩
theorem SR.unP {A : List (Addr × HO)} (S : SR K (c.withP (A ++ c.pins)) e G σ H) : SR K c e G σ H :=
  ⟨S.sub, S.keep, S.gk, S.dom, S.ioh, S.len, S.sh, S.ol, S.inj, S.io, fun q hq => S.pin q (List.mem_append_right _ hq), by
    have nd : ((A ++ c.pins).map (·.1)).Nodup := S.pnd
    rw [List.map_append] at nd
    exact (List.nodup_append.mp nd).2.1⟩
def rTupOf (K : PySem.W.Frag) : List V → Hp → VK → Prop := fun xs H Q => ∃ p ys, xs = [.ref p] ∧ ((SqL K H p ys ∧ ∀ l, H l = none → Q (.ref l) (upd H l (.tup ys))) ∨ (SqT K H p ys ∧ Q (.ref p) H))
def rKeysOf : List V → Hp → VK → Prop := fun xs H Q => ∃ (a : Addr) (kvs : List (Key × V)), xs = [.ref a] ∧ Rd H a (.dK kvs) ∧ ∀ p, H p = none → Q (.ref p) (upd H p (.lst (kvs.map fun kv => kV kv.1)))
/-- tuple([tuple(groups[k]) for k in sorted(list(groups))]) -/
def tGrp (K : PySem.W.Frag) (v : Nat) : TE := tCB (rTupOf K) (tCons (tLc (iAny K (tCB (rSortD K) (tCons (tCB rKeysOf (tCons (tVar 3) tNil)) tNil))) (gName v) tYes (tCB (rTupOf K) (tCons (tDGet (tVar 3) (tVar v)) tNil)) [v]) tNil)
theorem grp_end {v : Nat} {Q : VK} {el : Wd → List Wd} (hio : c.ios = []) (hv : v ≠ 3) (hvl : v < e.length) (S : StG K c p g e G σ H) (asc : ∀ t ∈ g, Asc t.1) (hel : ∀ t ∈ g, t.2.2 = el t.1)
    (k : ∀ (ks : List Wd) (x : V) (e' : List Sl) (G' : Hp) (σ' : L2.St) (H' : Hp), SrtO.Srtd ltK (ks.map sd) → (ks.map sd).Perm ((g.map (·.1)).map sd) → Ex G G' → SR K c e' G' σ' H' → Dp K G' x (.tuple (ks.map fun k => .tuple ((el k).map sd))) → Q x H') : tGrp K v σ H Q := by
  refine ⟨.ref p, S.v, p, g.map ent, rfl, .inl S.dict, fun q hq => ?_⟩
  have hnm : v ∉ c.ios := by rw [hio]; exact List.not_mem_nil
  have S1 := S.s.grow (Gr.own (o := .lst ((g.map ent).map fun kv => kV kv.1)) S.s.sub hq)
  have ek : (g.map ent).map (fun kv => kV kv.1) = (g.map (·.1)).map vS := by
    rw [List.map_map, List.map_map]
    rfl
  refine ⟨q, _, (g.map (·.1)).map sd, rfl, .inl (.inl (.inl upd_same)), by rw [ek]; exact dpa_words _, ?_, fun zs es s hs1 hs2 hz hs => ?_⟩
  · refine .sStrs ((g.map (·.1)).map SX.S) (by rw [List.map_map, List.map_map, List.map_map]; rfl) fun d hd => ?_
    obtain ⟨k, hk, rfl⟩ := List.mem_map.mp hd
    obtain ⟨t, ht, rfl⟩ := List.mem_map.mp hk
    exact ((asc t ht).ok (n := 1)).1
  obtain ⟨ks, rfl⟩ : ∃ ks : List Wd, es = ks.map sd := by
    have : ∀ d ∈ es, ∃ k : Wd, d = sd k := fun d hd => by
      obtain ⟨k, _, e⟩ := List.mem_map.mp (hs2.perm.mem_iff.mp hd)
      exact ⟨k, e.symm⟩
    clear hs1 hs2 hz
    induction es with
    | nil => exact ⟨[], rfl⟩
    | cons d es ih =>
      obtain ⟨k, rfl⟩ := this d List.mem_cons_self
      obtain ⟨ks, rfl⟩ := ih fun x hx => this x (List.mem_cons_of_mem _ hx)
      exact ⟨k :: ks, rfl⟩
  have hzs : zs = ks.map vS := by
    have h0 := hz (fun _ => none) (by rw [ek]; exact dpa_words _)
    clear hs1 hs2 hz hs
    induction ks generalizing zs with
    | nil => cases h0; rfl
    | cons k ks ih =>
      cases h0 with
      | cons a b =>
        cases (show Dp K _ _ (sd k) from a)
        rw [ih _ b]
        rfl
  subst hzs
  have perm : (ks.map sd).Perm ((g.map (·.1)).map sd) := hs2.perm
  have kin : ∀ k ∈ ks, ∃ t ∈ g, t.1 = k := fun k hk => by
    obtain ⟨u, hu, e⟩ := List.mem_map.mp (perm.mem_iff.mp (List.mem_map.mpr ⟨k, hk, rfl⟩))
    obtain ⟨t, ht, e2⟩ := List.mem_map.mp hu
    exact ⟨t, ht, by rw [e2]; exact sd_inj e⟩
  have klen : ks.length ≤ 1000 := by
    have := perm.length_eq
    simp only [List.length_map] at this
    rw [this]
    exact S.l
  refine .inl ⟨s, _, rfl, .inl (.inl upd_same), fun _ D hD => ?_⟩
  have S2 := S1.dopin (o := .lst (ks.map vS)) hs
  have S3 := (S2.dopin (o := .lst []) hD).wipe (vs := [v]) (by intro i hi; rw [List.mem_singleton.mp hi]; exact hnm)
  refine ⟨fun i m H' => ∃ G' acc, m = ks.length - i ∧ i ≤ ks.length ∧ Ex G G' ∧ acc.length = i ∧ SR K (((c.withP (pG c.pins p g)).pinned s (.lst (ks.map vS))).pinned D (.lst acc)) (wipeE e [v]) G' (L2.wipe σ [v]) H' ∧ DpAll K G' acc ((ks.take i).map fun k => .tuple ((el k).map sd)),
    ⟨_, G, [], rfl, Nat.zero_le _, Ex.refl, rfl, S3, .nil⟩, ?_⟩
  rintro i m H' ⟨G', acc, rfl, hi, ex, hacc, S4, dpa⟩
  have pD : H' D = some (.lst acc) := (S4.pin _ List.mem_cons_self).1
  have ps : H' s = some (.lst (ks.map vS)) := (S4.pin _ (List.mem_cons_of_mem _ List.mem_cons_self)).1
  have old : ∀ x ∈ pG c.pins p g, H' x.1 = some x.2 := fun x hx => (S4.pin x (List.mem_cons_of_mem _ (List.mem_cons_of_mem _ hx))).1
  by_cases hlt : i < ks.length
  · refine .inr ⟨⟨_, vS ks[i], .inl (.inl ps), by rw [List.getElem?_map, List.getElem?_eq_getElem hlt]; rfl⟩, fun H2 => ∃ G' acc, Ex G G' ∧ acc.length = i + 1 ∧ SR K (((c.withP (pG c.pins p g)).pinned s (.lst (ks.map vS))).pinned D (.lst acc)) (wipeE e [v]) G' (L2.wipe σ [v]) H2 ∧ DpAll K G' acc ((ks.take (i + 1)).map fun k => .tuple ((el k).map sd)), fun H2 ⟨G2, acc2, a1, a2, a3, a4⟩ => ⟨_, by omega, G2, acc2, rfl, hlt, a1, a2, a3, a4⟩, fun x H2 y => ?_⟩
    obtain ⟨rfl, hx⟩ := y
    have hx := hx _ (.inl (.inl ps))
    rw [List.getElem?_map, List.getElem?_eq_getElem hlt] at hx
    cases hx
    refine ⟨?_, ?_⟩
    · show ((σ.set v none).set v _).set v none = σ.set v none
      rw [List.set_set, List.set_set]
    obtain ⟨t, ht, hk⟩ := kin ks[i] (List.getElem_mem hlt)
    obtain ⟨g1, g2, rfl⟩ := List.append_of_mem ht
    have hne : ∀ u ∈ g1, u.1 ≠ t.1 := fun u hu z => by
      have nd := S.k
      rw [List.map_append, List.map_cons] at nd
      exact (List.nodup_append.mp nd).2.2 _ (List.mem_map.mpr ⟨u, hu, z⟩) _ List.mem_cons_self rfl
    have hvs : v < σ.length := by rw [← S.s.len]; exact hvl
    refine ⟨.ref p, by
      show ((σ.set v none).set v _)[3]? = _
      rw [List.getElem?_set_ne hv, List.getElem?_set_ne hv]
      exact S.v, vS ks[i], by
      show ((σ.set v none).set v _)[v]? = _
      rw [List.set_set, List.getElem?_set_self hvs], p, .ref t.2.1, rfl, .inl ⟨_, .inr (SX.S t.1), .inl (old _ List.mem_cons_self), by rw [hk]; rfl, (val_some hne).symm⟩, ?_⟩
    have hl : H2 t.2.1 = some (.lst (t.2.2.map vS)) := old (pl t) (List.mem_cons_of_mem _ (List.mem_append_left _ (List.mem_map.mpr ⟨t, ht, rfl⟩)))
    refine ⟨t.2.1, t.2.2.map vS, rfl, .inl ⟨.inl (.inl hl), fun l hln => ?_⟩⟩
    have gr := Gr.new (o := .tup (t.2.2.map vS)) S4.sub hln
    have nD : D ≠ l := fun z => by rw [z, hln] at pD; cases pD
    refine ⟨acc, by rw [upd_ne nD]; exact pD, by rw [line24]; omega, _, _, ex.trans gr.g, by simp [hacc], (S4.grow gr).repin, ?_⟩
    rw [List.take_add_one, List.getElem?_eq_getElem hlt, List.map_append]
    refine dpa_app (gr.g.dpa dpa) (dpa_one (.tup (.inl (.inl upd_same)) ?_))
    rw [← hk, ← hel t ht]
    exact dpa_words _
  · have e2 : i = ks.length := by omega
    subst e2
    rw [List.take_length] at dpa
    refine .inl ⟨⟨_, .inl (.inl ps), by rw [List.length_map]; exact Nat.le_refl _⟩, ?_⟩
    refine ⟨D, acc, rfl, .inl ⟨.inl (.inl pD), fun l hln => ?_⟩⟩
    have gr := Gr.new (o := .tup acc) S4.sub hln
    have S5 : SR K (c.withP (pG c.pins p g)) (wipeE e [v]) _ (L2.wipe σ [v]) _ := (S4.grow gr).unpin.unpin
    have S6 : SR K c (wipeE e [v]) _ (L2.wipe σ [v]) _ := SR.unP (A := (p, .dK (g.map ent)) :: g.map pl) (by rw [List.cons_append]; exact S5)
    exact k ks (.ref l) _ _ _ _ hs1 perm (ex.trans gr.g) S6 (.tup (.inl (.inl upd_same)) (gr.g.dpa dpa))
end
end HD


set_option Elab.async false
set_option linter.all false
set_option maxRecDepth 100000
set_option maxHeartbeats 4000000
namespace HD
open PySem PySem.Spec PyProof.Rows L2
theorem fun_ofD {K : PySem.W.Frag} {x qual : Str} {st : Stmt} {f : Addr} {fd : FuncData} (F : FunD K x qual (defArgs st) (defBody st) (defScope st) [] [] f fd) : Fun K x qual st f fd := by
  obtain ⟨oc, od, dV, kV, doc, pm, an, cdv, ct, osl, rfl, lk, hcd, hD, hK⟩ := F.ex
  rcases hD with ⟨_, rfl⟩ | ⟨e, _⟩
  · exact ⟨⟨oc, od, kV, doc, pm, an, cdv, ct, osl, rfl, lk, hcd⟩, F.kp⟩
  · exact absurd rfl e
/-- the end of a law's row, the fragment told by the walk -/
theorem walk_ofGE {l : PySem.W.OpenLaw} {n k : Nat} {q : Program} {loose : List Str} {XP : (Str → Option Value) → Heap → Prop} {YP : World → Heap → Prop} {d : DefRec} {CX : CXT} {x : Str}
    (hn : l.most = some n) (hn2 : n ≤ sizeLine) (hdf : d.params.defaults = []) (hr : RoomG k callerA)
    (F : ∀ (w : World) (mg : Str → Option Value) (fa : Addr) (h : Heap), YP w h → h.Ns mainGlobals mg → mg d.name = some (.ref fa) →
      ∃ (K : PySem.W.Frag) (fd : FuncData) (sp : Sp), K.In h ∧ (∀ (s : Shared) (u : Value), BindsTo s fd ⟨[u], []⟩ [(x, u)]) ∧
        (∀ (H : Hp) (a : Addr) (ns : List Int), ns.length ≤ n → Only H → SqL K H a (ns.map V.int) → sp [.ref a] H (fun v _ => v = .bl true) fun _ _ _ => False) ∧
        ∀ base : Heap, K.In base → base.Ns mainGlobals mg → FnG l.prog w K mg base CX k fa fd [x] sp)
    (hCX : ∀ (H : Hp) (s : Shared) (e : Value) (s' : Shared), CX [] H s (fun _ _ _ => False) e s' → False) : PySem.W.WalkO q loose XP YP l.row.toRowW d [] (fun f vs => PySem.call f vs) := by
  refine Att.attach_call hn hdf ?_
  intro w s₀ s₁ mg mb fa o pm cd doc a vs ns G Y ho hd hcd hmg hobj hints hlen hgens
  obtain ⟨K, fd, sp, KX, hb, hsp, hF⟩ := F w mg fa _ Y G.T.g hmg
  exact law_goes KX G.T.g G.T.b G.T.builtins G.T.nolimit hgens hobj hints (Nat.le_trans hlen hn2) hr hF hb (fun H only hS => hsp H a ns hlen only hS) fun H e s' => hCX H s₁ e s'
theorem dp_ints {K : PySem.W.Frag} {G : Hp} : ∀ ns : List Int, DpAll K G (ns.map V.int) (ns.map PyData.int)
  | [] => .nil
  | n :: ns => .cons (.int n) (dp_ints ns)
/-- the law's promise at its own call -/
theorem law_sp {K : PySem.W.Frag} {s : DS0} {H : Hp} {a : Addr} {ns : List Int} (hS : SqL K H a (ns.map V.int)) (hs : ∀ Q : R → Prop, Q (.val (.bool true)) → s [.list (ns.map PyData.int)] Q) : spOf0 K 1 s [.ref a] H (fun v _ => v = .bl true) fun _ _ _ => False := by
  refine ⟨H, [.list (ns.map PyData.int)], fun r => r = .val (.bool true), Ex.refl, .cons (.lst hS (dp_ints ns)) .nil, rfl, hs _ rfl, ?_⟩
  rintro r v G' H' rfl gr rn
  have : Dp K G' v (.bool true) := rn
  cases this
  rfl
end HD


set_option Elab.async false
set_option linter.all false
set_option maxRecDepth 100000
set_option maxHeartbeats 4000000
namespace HD
open PySem PySem.Spec PyProof.Rows L2
local macro_rules | `(tactic| walk_at "w") => `(tactic| conv => whnf)
local macro_rules | `(tactic| walk_at "ar") => `(tactic| (try dsimp only) <;> first | omega | decide | assumption)
local macro_rules | `(tactic| walk_at "bk") => `(tactic| first | rfl | (refine Eq.trans (b := true) ?_ rfl; rfl))
def topS (i : Nat) : Stmt := PySem.Challenge.pw_neveropposed_k51_stuck_wires.main.body.getD i (.Pass ⟨0, 0, 0, 0⟩)
/-! what the defs are asked for -/
def LotOf (n m : Nat) (d : D) : Prop := ∃ (ws : List Int) (z : Wd), d = .tuple [.tuple (ws.map PyData.int), sd z] ∧ ws ≠ [] ∧ ws.length ≤ m ∧ (∀ i ∈ ws, 0 ≤ i ∧ i < n) ∧ z.length = ws.length ∧ Bt z
def BusOf (n m l : Nat) (d : D) : Prop := ∃ ls : List D, d = .tuple [.int n, .tuple ls] ∧ (∀ x ∈ ls, LotOf n m x) ∧ ls.length ≤ l
def WdsOf (n : Nat) (ws : List Wd) : Prop := ws.Nodup ∧ ∀ w ∈ ws, Bt w ∧ w.length = n
def CaseOf (d : D) : Prop := ∃ (n : Nat) (ws : List Wd) (is : List Int) (o : Wd), d = .tuple [.int n, .list (ws.map sd), .list (is.map PyData.int), sd o] ∧ n ≤ 60 ∧ WdsOf n ws ∧ ws.length ≤ 64 ∧ (∀ i ∈ is, 0 ≤ i ∧ i < n) ∧ is.length ≤ 3 ∧ Bt o ∧ o.length = n
def s_law_stream : DS0 := fun ds Q => ∃ ns : List Int, ds = [.list (ns.map PyData.int)] ∧ ∀ ys, Strm ys → Q (.fr ys)
def s_law_take : DS1 := fun xs ds Q => ∃ m, ds = [.int m] ∧ 0 < m ∧ Strm xs ∧ ∀ r ys, 0 ≤ r → r < m → Strm ys → Q (.val (.int r)) ys
def s_law_same : DS0 := fun ds Q => ∃ d, ds = [d, d] ∧ okR d ∧ okD d ∧ Q (.val (.bool true))
def s_law_lot : DS1 := fun xs ds Q => ∃ n m : Nat, ds = [.int n, .int m] ∧ 0 < n ∧ n ≤ 64 ∧ 0 < m ∧ m ≤ 64 ∧ Strm xs ∧ ∀ d ys, LotOf n 65 d → Strm ys → Q (.val d) ys
def s_law_lots : DS1 := fun xs ds Q => ∃ n m : Nat, ds = [.int n, .int m] ∧ 0 < n ∧ n ≤ 64 ∧ m ≤ 64 ∧ Strm xs ∧ ∀ ls ys, (∀ x ∈ ls, LotOf n 65 x) → ls.length ≤ m → Strm ys → Q (.fr ls) ys
def s_law_opposite : DS0 := fun ds Q => ∃ z, ds = [sd z] ∧ Bt z ∧ z.length ≤ 100000 ∧ ∀ y, Bt y → y.length = z.length → Q (.val (sd y))
def s_law_standard : DS0 := fun ds Q => ∃ d n m, ds = [d] ∧ LotOf n m d ∧ m ≤ 1000 ∧ ∀ d', LotOf n m d' → Q (.val d')
def s_law_bus : DS0 := fun ds Q => ∃ (n : Nat) (ls : List D), ds = [.int n, .list ls] ∧ (∀ x ∈ ls, LotOf n 65 x) ∧ ls.length ≤ 64 ∧ ∀ d, BusOf n 65 ls.length d → Q (.val d)
def s_law_words : DS0 := fun ds Q => ∃ n : Nat, ds = [.int n] ∧ n ≤ 6 ∧ ∀ ws r, WdsOf n ws → ws.length = 2 ^ n → (r = .fr (ws.map sd) ∨ r = .val (.list (ws.map sd))) → Q r
def s_law_part : DS0 := fun ds Q => ∃ (w : Wd) (is : List Int), ds = [sd w, .tuple (is.map PyData.int)] ∧ w.length ≤ 1000 ∧ is.length ≤ 1000 ∧ (∀ i ∈ is, 0 ≤ i ∧ i < w.length) ∧ ∀ y, Q (.val (sd y))
def s_law_lacks : DS0 := fun ds Q => ∃ (d : D) (n : Nat) (s w : Wd), ds = [d, sd s, sd w] ∧ LotOf n 65 d ∧ w.length = n ∧ n ≤ 64 ∧ ∀ b, Q (.val (.bool b))
def s_law_left : DS0 := fun ds Q => ∃ (n l : Nat) (ls : List D) (c : Wd), ds = [.tuple [.int n, .tuple ls], sd c] ∧ (∀ x ∈ ls, LotOf n 65 x) ∧ ls.length ≤ 64 ∧ c.length = ls.length ∧ n ≤ 6 ∧ ∀ ws, WdsOf n ws → ws.length ≤ 64 → Q (.fr (ws.map sd))
def s_law_shuffled : DS1 := fun xs ds Q => ∃ ts, ds = [.list ts] ∧ ts.length ≤ 1000 ∧ Strm xs ∧ ∀ us ys, us.Perm ts → Strm ys → Q (.fr us) ys
def s_law_word : DS1 := fun xs ds Q => ∃ n : Nat, ds = [.int n] ∧ n ≤ 1000 ∧ Strm xs ∧ ∀ w ys, Bt w → w.length = n → Strm ys → Q (.val (sd w)) ys
def s_law_wide_words : DS1 := fun xs ds Q => ds = [] ∧ Strm xs ∧ ∀ ws ys, WdsOf 60 ws → ws.length ≤ 64 → Strm ys → Q (.fr (ws.map sd)) ys
def s_law_case : DS1 := fun xs ds Q => ds = [] ∧ Strm xs ∧ ∀ d ys, CaseOf d → Strm ys → Q (.val d) ys
/-- the words by what they get to when a wire is stuck -/
def stuckW (i : Nat) (c : Nat) (w : Wd) : Wd := w.take i ++ [c] ++ w.drop (i + 1)
def sortW (es : List D) (ws : List Wd) : Prop := SrtO.Srtd ltK es ∧ es.Perm (ws.map sd)
def GrpOf (ws : List Wd) (i c : Nat) (d : D) : Prop := ∃ ss ks : List Wd, sortW (ss.map sd) ws ∧ (∃ kk : List Wd, kk.Nodup ∧ (∀ k, k ∈ kk ↔ ∃ w ∈ ws, stuckW i c w = k) ∧ sortW (ks.map sd) kk) ∧
  d = .tuple (ks.map fun k => .tuple ((ss.filter fun w => decide (stuckW i c w = k)).map sd))
def sstuck_word : DS0 := fun ds Q => ∃ (w : Wd) (i c : Nat), ds = [sd w, .int i, sd [c]] ∧ w.length ≤ 1000 ∧ i < w.length ∧ Q (.val (sd (stuckW i c w)))
def sstuck_groups : DS0 := fun ds Q => ∃ (n : Nat) (ws : List Wd) (i c : Nat), ds = [.tuple (ws.map sd), .int i, sd [c]] ∧ n ≤ 60 ∧ (∀ w ∈ ws, Bt w ∧ w.length = n) ∧ ws.length ≤ 64 ∧ i < n ∧ (c = 48 ∨ c = 49) ∧ ∀ d, GrpOf ws i c d → Q (.val d)
def s_law_groups : DS0 := fun ds Q => ∃ (n : Nat) (ws : List Wd) (i c : Nat), ds = [.list (ws.map sd), .int i, sd [c]] ∧ n ≤ 60 ∧ (∀ w ∈ ws, Bt w ∧ w.length = n) ∧ ws.length ≤ 64 ∧ i < n ∧ (c = 48 ∨ c = 49) ∧ ∀ d, GrpOf ws i c d → Q (.val d)
def pairsN (ws : List Wd) (i : Nat) : Nat := (ws.filter fun w => decide (w[i]? = some 48 ∧ stuckW i 49 w ∈ ws)).length
def s_law_pairs : DS0 := fun ds Q => ∃ (n : Nat) (ws : List Wd) (i : Nat), ds = [.list (ws.map sd), .int i] ∧ n ≤ 60 ∧ (∀ w ∈ ws, Bt w ∧ w.length = n) ∧ ws.length ≤ 64 ∧ i < n ∧ Q (.val (.int (pairsN ws i)))
def s_law_right : DS0 := fun ds Q => ∃ d, ds = [d] ∧ CaseOf d ∧ Q (.val (.bool true))
def slaw : DS0 := fun ds Q => ∃ ns : List Int, ds = [.list (ns.map PyData.int)] ∧ Q (.val (.bool true))
abbrev Nstuck_word : List Str := [Str.ofString "word", Str.ofString "wire", Str.ofString "sign"]
abbrev pstuck_word : List Str := [Str.ofString "word", Str.ofString "wire", Str.ofString "sign"]
abbrev ststuck_word : Stmt := topS 1
theorem scstuck_word : FnScope Nstuck_word pstuck_word (defScope ststuck_word) := ⟨rfl, rfl, rfl, by decide +kernel, rfl, by decide +kernel, by decide +kernel⟩
def rdstuck_word : TSD :=
  (dRet (dOp addD (dOp addD (dSlice (dVar 0) doNo (doSo (dVar 1))) (dVar 2)) (dSlice (dVar 0) (doSo (dOp addD (dVar 1) (dC (.int 1)))) doNo)))
theorem nstuck_word : ∀ ds Q, sstuck_word ds Q → ds.length = pstuck_word.length := fun ds Q => by
  refine fun h => ?_
  first | (obtain ⟨rfl, _⟩ := h; rfl) | (obtain ⟨_, rfl, _⟩ := h; rfl) | (obtain ⟨_, _, rfl, _⟩ := h; rfl) | (obtain ⟨_, _, _, rfl, _⟩ := h; rfl) | (obtain ⟨_, _, _, _, rfl, _⟩ := h; rfl)
abbrev pstuck_groups : List Str := [Str.ofString "words", Str.ofString "wire", Str.ofString "sign"]
theorem nstuck_groups : ∀ ds Q, sstuck_groups ds Q → ds.length = pstuck_groups.length := fun ds Q => by
  refine fun h => ?_
  first | (obtain ⟨rfl, _⟩ := h; rfl) | (obtain ⟨_, rfl, _⟩ := h; rfl) | (obtain ⟨_, _, rfl, _⟩ := h; rfl) | (obtain ⟨_, _, _, rfl, _⟩ := h; rfl) | (obtain ⟨_, _, _, _, rfl, _⟩ := h; rfl)
abbrev N_law_stream : List Str := [Str.ofString "script", Str.ofString "found", Str.ofString "mixed", Str.ofString "at", Str.ofString "cell", Str.ofString "k", Str.ofString "again"]
abbrev p_law_stream : List Str := [Str.ofString "script"]
abbrev st_law_stream : Stmt := topS 4
theorem sc_law_stream : FnScope N_law_stream p_law_stream (defScope st_law_stream) := ⟨rfl, rfl, rfl, by decide +kernel, rfl, by decide +kernel, by decide +kernel⟩
def rd_law_stream : TSD :=
  (dSeq (dAsg 1 (dLst dNil))
  (dSeq (dAsg 2 (dC (.int 1234567)))
  (dSeq (dFor (dgN 3) (dRg1 (dCons (dB min2D (dCons (dB lenD (dCons (dVar 0) dNil)) (dCons (dC (.int 63)) dNil))) dNil)) (dSeq (dAsg 4 (dB absD (dCons (dB toIntD (dCons (dOp ixD (dVar 0) (dVar 3)) dNil)) dNil)))
  (dSeq (dAsg 2 (dOp modD (dB toIntD (dCons (dOp addD (dOp addD (dOp addD (dOp mulD (dVar 2) (dC (.int 48271))) (dOp mulD (dVar 4) (dC (.int 69621)))) (dVar 3)) (dC (.int 1))) dNil)) (dC (.int 2147483647))))
  (dIfS (dT (dOp geD (dVar 4) (dOp powD (dC (.int 10)) (dC (.int 18))))) (dFor (dgN 5) (dRg1 (dCons (dC (.int 60)) dNil)) (dIfS (dT (dOp gtD (dVar 4) (dC (.int 0)))) (dSeq (dDrop (dMt appD 1 (dCons (dOp modD (dB toIntD (dCons (dVar 4) dNil)) (dC (.int 1000))) dNil)))
  (dAsg 4 (dOp fdivD (dVar 4) (dC (.int 1000))))) dNext)) (dSeq (dAsg 6 (dVar 2))
  (dFor (dgN 5) (dRg1 (dCons (dC (.int 4)) dNil)) (dSeq (dAsg 6 (dOp modD (dB toIntD (dCons (dOp addD (dOp addD (dOp mulD (dVar 6) (dC (.int 16807))) (dVar 4)) (dVar 5)) dNil)) (dC (.int 2147483647))))
  (dDrop (dMt appD 1 (dCons (dOp modD (dOp fdivD (dVar 6) (dC (.int 1000))) (dC (.int 1000))) dNil))))))))))
  (dSeq (dDrop (dMt revD 1 dNil))
  (dRet (dOp addD (dLst (dCons (dVar 2) dNil)) (dVar 1)))))))
theorem n_law_stream : ∀ ds Q, s_law_stream ds Q → ds.length = p_law_stream.length := fun ds Q => by
  refine fun h => ?_
  first | (obtain ⟨rfl, _⟩ := h; rfl) | (obtain ⟨_, rfl, _⟩ := h; rfl) | (obtain ⟨_, _, rfl, _⟩ := h; rfl) | (obtain ⟨_, _, _, rfl, _⟩ := h; rfl) | (obtain ⟨_, _, _, _, rfl, _⟩ := h; rfl)
abbrev N_law_take : List Str := [Str.ofString "stream", Str.ofString "most"]
abbrev p_law_take : List Str := [Str.ofString "stream", Str.ofString "most"]
abbrev st_law_take : Stmt := topS 5
theorem sc_law_take : FnScope N_law_take p_law_take (defScope st_law_take) := ⟨rfl, rfl, rfl, by decide +kernel, rfl, by decide +kernel, by decide +kernel⟩
def rd_law_take : TSD :=
  (dSeq (dIfS (dT (dOp gtD (dB lenD (dCons (dVar 0) dNil)) (dC (.int 1)))) (dRet (dOp modD (dB toIntD (dCons (dMt popD 0 dNil) dNil)) (dVar 1))) dNext)
  (dSeq (dAsgG (dOp modD (dB toIntD (dCons (dOp addD (dOp mulD (dOp ixD (dVar 0) (dC (.int 0))) (dC (.int 48271))) (dC (.int 12345))) dNil)) (dC (.int 2147483647))) (dgSub 0 (dC (.int 0))))
  (dRet (dOp modD (dOp fdivD (dB toIntD (dCons (dOp ixD (dVar 0) (dC (.int 0))) dNil)) (dC (.int 1000))) (dVar 1)))))
theorem n_law_take : ∀ xs ds Q, s_law_take xs ds Q → ds.length + 1 = p_law_take.length := fun xs ds Q => by
  refine fun h => ?_
  first | (obtain ⟨rfl, _⟩ := h; rfl) | (obtain ⟨_, rfl, _⟩ := h; rfl) | (obtain ⟨_, _, rfl, _⟩ := h; rfl) | (obtain ⟨_, _, _, rfl, _⟩ := h; rfl) | (obtain ⟨_, _, _, _, rfl, _⟩ := h; rfl)
abbrev N_law_same : List Str := [Str.ofString "actual", Str.ofString "due"]
abbrev p_law_same : List Str := [Str.ofString "actual", Str.ofString "due"]
abbrev st_law_same : Stmt := topS 6
theorem sc_law_same : FnScope N_law_same p_law_same (defScope st_law_same) := ⟨rfl, rfl, rfl, by decide +kernel, rfl, by decide +kernel, by decide +kernel⟩
def rd_law_same : TSD :=
  (dRet (dAndV (dOp eqD (dB reprD (dCons (dVar 0) dNil)) (dB reprD (dCons (dVar 1) dNil))) (dOp eqD (dVar 0) (dVar 1))))
theorem n_law_same : ∀ ds Q, s_law_same ds Q → ds.length = p_law_same.length := fun ds Q => by
  refine fun h => ?_
  first | (obtain ⟨rfl, _⟩ := h; rfl) | (obtain ⟨_, rfl, _⟩ := h; rfl) | (obtain ⟨_, _, rfl, _⟩ := h; rfl) | (obtain ⟨_, _, _, rfl, _⟩ := h; rfl) | (obtain ⟨_, _, _, _, rfl, _⟩ := h; rfl)
abbrev N_law_lot : List Str := [Str.ofString "stream", Str.ofString "size", Str.ofString "most", Str.ofString "wires", Str.ofString "k", Str.ofString "wire", Str.ofString "pattern"]
abbrev p_law_lot : List Str := [Str.ofString "stream", Str.ofString "size", Str.ofString "most"]
abbrev st_law_lot : Stmt := topS 7
theorem sc_law_lot : FnScope N_law_lot p_law_lot (defScope st_law_lot) := ⟨rfl, rfl, rfl, by decide +kernel, rfl, by decide +kernel, by decide +kernel⟩
def rd_law_lot : TSD :=
  (dSeq (dAsg 3 (dLst dNil))
  (dSeq (dFor (dgN 4) (dRg1 (dCons (dOp addD (dC (.int 1)) (dCall1 s_law_take (dCons (dVar 0) (dCons (dVar 2) dNil)))) dNil)) (dSeq (dAsg 5 (dCall1 s_law_take (dCons (dVar 0) (dCons (dVar 1) dNil))))
  (dIfS (dT (dOp (inD true) (dVar 5) (dVar 3))) (dDrop (dMt appD 3 (dCons (dVar 5) dNil))) dNext)))
  (dSeq (dAsg 6 (dM joinD isStrD (dC (.str (Str.ofString ""))) (dCons (dLc (dgN 5) (dIt (dVar 3)) dYes (dOp ixD (dC (.str (Str.ofString "01"))) (dCall1 s_law_take (dCons (dVar 0) (dCons (dC (.int 2)) dNil)))) [5]) dNil)))
  (dRet (dTup (dCons (dB toTupD (dCons (dVar 3) dNil)) (dCons (dVar 6) dNil)))))))
theorem n_law_lot : ∀ xs ds Q, s_law_lot xs ds Q → ds.length + 1 = p_law_lot.length := fun xs ds Q => by
  refine fun h => ?_
  first | (obtain ⟨rfl, _⟩ := h; rfl) | (obtain ⟨_, rfl, _⟩ := h; rfl) | (obtain ⟨_, _, rfl, _⟩ := h; rfl) | (obtain ⟨_, _, _, rfl, _⟩ := h; rfl) | (obtain ⟨_, _, _, _, rfl, _⟩ := h; rfl)
abbrev N_law_lots : List Str := [Str.ofString "stream", Str.ofString "size", Str.ofString "many", Str.ofString "word", Str.ofString "shape", Str.ofString "lots", Str.ofString "k", Str.ofString "lot", Str.ofString "old", Str.ofString "wire"]
abbrev p_law_lots : List Str := [Str.ofString "stream", Str.ofString "size", Str.ofString "many"]
abbrev st_law_lots : Stmt := topS 8
theorem sc_law_lots : FnScope N_law_lots p_law_lots (defScope st_law_lots) := ⟨rfl, rfl, rfl, by decide +kernel, rfl, by decide +kernel, by decide +kernel⟩
def rd_law_lots : TSD :=
  (dSeq (dAsg 3 (dLc (dgN 6) (dRg1 (dCons (dVar 1) dNil)) dYes (dCall1 s_law_take (dCons (dVar 0) (dCons (dC (.int 2)) dNil))) [6]))
  (dSeq (dAsg 4 (dCall1 s_law_take (dCons (dVar 0) (dCons (dC (.int 5)) dNil))))
  (dSeq (dAsg 5 (dLst dNil))
  (dSeq (dFor (dgN 6) (dRg1 (dCons (dCall1 s_law_take (dCons (dVar 0) (dCons (dOp addD (dVar 2) (dC (.int 1))) dNil))) dNil)) (dSeq (dAsg 7 (dCall1 s_law_lot (dCons (dVar 0) (dCons (dVar 1) (dCons (dC (.int 4)) dNil)))))
  (dSeq (dIfS (dAnd (dT (dOp eqD (dVar 4) (dC (.int 0)))) (dT (dOp gtD (dVar 1) (dC (.int 1))))) (dAsg 7 (dTup (dCons (dTup (dCons (dOp modD (dVar 6) (dVar 1)) (dCons (dOp modD (dOp addD (dVar 6) (dC (.int 1))) (dVar 1)) dNil))) (dCons (dC (.str (Str.ofString "01"))) dNil)))) (dIfS (dT (dOp eqD (dVar 4) (dC (.int 1)))) (dAsg 7 (dTup (dCons (dOp ixD (dVar 7) (dC (.int 0))) (dCons (dM joinD isStrD (dC (.str (Str.ofString ""))) (dCons (dLc (dgN 9) (dIt (dOp ixD (dVar 7) (dC (.int 0)))) dYes (dB toStrD (dCons (dOp ixD (dVar 3) (dVar 9)) dNil)) [9]) dNil)) dNil)))) (dIfS (dAnd (dT (dOp eqD (dVar 4) (dC (.int 2)))) (dAnd (dT (dOp gtD (dB lenD (dCons (dVar 5) dNil)) (dC (.int 0)))) (dT (dOp eqD (dCall1 s_law_take (dCons (dVar 0) (dCons (dC (.int 2)) dNil))) (dC (.int 0)))))) (dSeq (dAsg 8 (dOp ixD (dOp ixD (dVar 5) (dCall1 s_law_take (dCons (dVar 0) (dCons (dB lenD (dCons (dVar 5) dNil)) dNil)))) (dC (.int 0))))
  (dAsg 7 (dTup (dCons (dVar 8) (dCons (dM joinD isStrD (dC (.str (Str.ofString ""))) (dCons (dLc (dgN 9) (dIt (dVar 8)) dYes (dOp ixD (dC (.str (Str.ofString "01"))) (dCall1 s_law_take (dCons (dVar 0) (dCons (dC (.int 2)) dNil)))) [9]) dNil)) dNil))))) dNext)))
  (dDrop (dMt appD 5 (dCons (dVar 7) dNil))))))
  (dRet (dVar 5))))))
theorem n_law_lots : ∀ xs ds Q, s_law_lots xs ds Q → ds.length + 1 = p_law_lots.length := fun xs ds Q => by
  refine fun h => ?_
  first | (obtain ⟨rfl, _⟩ := h; rfl) | (obtain ⟨_, rfl, _⟩ := h; rfl) | (obtain ⟨_, _, rfl, _⟩ := h; rfl) | (obtain ⟨_, _, _, rfl, _⟩ := h; rfl) | (obtain ⟨_, _, _, _, rfl, _⟩ := h; rfl)
abbrev N_law_opposite : List Str := [Str.ofString "word", Str.ofString "sign"]
abbrev p_law_opposite : List Str := [Str.ofString "word"]
abbrev st_law_opposite : Stmt := topS 9
theorem sc_law_opposite : FnScope N_law_opposite p_law_opposite (defScope st_law_opposite) := ⟨rfl, rfl, rfl, by decide +kernel, rfl, by decide +kernel, by decide +kernel⟩
def rd_law_opposite : TSD :=
  (dRet (dM joinD isStrD (dC (.str (Str.ofString ""))) (dCons (dLc (dgN 1) (dIt (dVar 0)) dYes (dOp ixD (dC (.str (Str.ofString "10"))) (dB toIntD (dCons (dVar 1) dNil))) [1]) dNil)))
theorem n_law_opposite : ∀ ds Q, s_law_opposite ds Q → ds.length = p_law_opposite.length := fun ds Q => by
  refine fun h => ?_
  first | (obtain ⟨rfl, _⟩ := h; rfl) | (obtain ⟨_, rfl, _⟩ := h; rfl) | (obtain ⟨_, _, rfl, _⟩ := h; rfl) | (obtain ⟨_, _, _, rfl, _⟩ := h; rfl) | (obtain ⟨_, _, _, _, rfl, _⟩ := h; rfl)
abbrev N_law_standard : List Str := [Str.ofString "lot", Str.ofString "pairs", Str.ofString "signs", Str.ofString "k", Str.ofString "pair"]
abbrev p_law_standard : List Str := [Str.ofString "lot"]
abbrev st_law_standard : Stmt := topS 10
theorem sc_law_standard : FnScope N_law_standard p_law_standard (defScope st_law_standard) := ⟨rfl, rfl, rfl, by decide +kernel, rfl, by decide +kernel, by decide +kernel⟩
def rd_law_standard : TSD :=
  (dSeq (dAsg 1 (dB sortedD (dCons (dLc (dgN 3) (dRg1 (dCons (dB lenD (dCons (dOp ixD (dVar 0) (dC (.int 0))) dNil)) dNil)) dYes (dTup (dCons (dOp ixD (dOp ixD (dVar 0) (dC (.int 0))) (dVar 3)) (dCons (dOp ixD (dOp ixD (dVar 0) (dC (.int 1))) (dVar 3)) dNil))) [3]) dNil)))
  (dSeq (dAsg 2 (dM joinD isStrD (dC (.str (Str.ofString ""))) (dCons (dLc (dgN 4) (dIt (dVar 1)) dYes (dOp ixD (dVar 4) (dC (.int 1))) [4]) dNil)))
  (dSeq (dIfS (dT (dOp eqD (dOp ixD (dVar 2) (dC (.int 0))) (dC (.str (Str.ofString "1"))))) (dAsg 2 (dCall0 s_law_opposite (dCons (dVar 2) dNil))) dNext)
  (dRet (dTup (dCons (dB toTupD (dCons (dLc (dgN 4) (dIt (dVar 1)) dYes (dOp ixD (dVar 4) (dC (.int 0))) [4]) dNil)) (dCons (dVar 2) dNil)))))))
theorem n_law_standard : ∀ ds Q, s_law_standard ds Q → ds.length = p_law_standard.length := fun ds Q => by
  refine fun h => ?_
  first | (obtain ⟨rfl, _⟩ := h; rfl) | (obtain ⟨_, rfl, _⟩ := h; rfl) | (obtain ⟨_, _, rfl, _⟩ := h; rfl) | (obtain ⟨_, _, _, rfl, _⟩ := h; rfl) | (obtain ⟨_, _, _, _, rfl, _⟩ := h; rfl)
abbrev N_law_bus : List Str := [Str.ofString "size", Str.ofString "lots", Str.ofString "found", Str.ofString "lot"]
abbrev p_law_bus : List Str := [Str.ofString "size", Str.ofString "lots"]
abbrev st_law_bus : Stmt := topS 11
theorem sc_law_bus : FnScope N_law_bus p_law_bus (defScope st_law_bus) := ⟨rfl, rfl, rfl, by decide +kernel, rfl, by decide +kernel, by decide +kernel⟩
def rd_law_bus : TSD :=
  (dSeq (dAsg 2 (dLst dNil))
  (dSeq (dFor (dgN 3) (dIt (dB sortedD (dCons (dLc (dgN 3) (dIt (dVar 1)) dYes (dCall0 s_law_standard (dCons (dVar 3) dNil)) [3]) dNil))) (dIfS (dT (dOp (inD true) (dVar 3) (dVar 2))) (dDrop (dMt appD 2 (dCons (dVar 3) dNil))) dNext))
  (dRet (dTup (dCons (dVar 0) (dCons (dB toTupD (dCons (dVar 2) dNil)) dNil))))))
theorem n_law_bus : ∀ ds Q, s_law_bus ds Q → ds.length = p_law_bus.length := fun ds Q => by
  refine fun h => ?_
  first | (obtain ⟨rfl, _⟩ := h; rfl) | (obtain ⟨_, rfl, _⟩ := h; rfl) | (obtain ⟨_, _, rfl, _⟩ := h; rfl) | (obtain ⟨_, _, _, rfl, _⟩ := h; rfl) | (obtain ⟨_, _, _, _, rfl, _⟩ := h; rfl)
abbrev N_law_words : List Str := [Str.ofString "size", Str.ofString "words", Str.ofString "k", Str.ofString "longer", Str.ofString "word"]
abbrev p_law_words : List Str := [Str.ofString "size"]
abbrev st_law_words : Stmt := topS 12
theorem sc_law_words : FnScope N_law_words p_law_words (defScope st_law_words) := ⟨rfl, rfl, rfl, by decide +kernel, rfl, by decide +kernel, by decide +kernel⟩
def rd_law_words : TSD :=
  (dSeq (dAsg 1 (dLst (dCons (dC (.str (Str.ofString ""))) dNil)))
  (dSeq (dFor (dgN 2) (dRg1 (dCons (dVar 0) dNil)) (dSeq (dAsg 3 (dLst dNil))
  (dSeq (dFor (dgN 4) (dIt (dVar 1)) (dSeq (dDrop (dMt appD 3 (dCons (dOp addD (dVar 4) (dC (.str (Str.ofString "0")))) dNil)))
  (dDrop (dMt appD 3 (dCons (dOp addD (dVar 4) (dC (.str (Str.ofString "1")))) dNil)))))
  (dAsg 1 (dVar 3)))))
  (dRet (dVar 1))))
theorem n_law_words : ∀ ds Q, s_law_words ds Q → ds.length = p_law_words.length := fun ds Q => by
  refine fun h => ?_
  first | (obtain ⟨rfl, _⟩ := h; rfl) | (obtain ⟨_, rfl, _⟩ := h; rfl) | (obtain ⟨_, _, rfl, _⟩ := h; rfl) | (obtain ⟨_, _, _, rfl, _⟩ := h; rfl) | (obtain ⟨_, _, _, _, rfl, _⟩ := h; rfl)
abbrev N_law_part : List Str := [Str.ofString "word", Str.ofString "wires", Str.ofString "wire"]
abbrev p_law_part : List Str := [Str.ofString "word", Str.ofString "wires"]
abbrev st_law_part : Stmt := topS 13
theorem sc_law_part : FnScope N_law_part p_law_part (defScope st_law_part) := ⟨rfl, rfl, rfl, by decide +kernel, rfl, by decide +kernel, by decide +kernel⟩
def rd_law_part : TSD :=
  (dRet (dM joinD isStrD (dC (.str (Str.ofString ""))) (dCons (dLc (dgN 2) (dIt (dVar 1)) dYes (dOp ixD (dVar 0) (dVar 2)) [2]) dNil)))
theorem n_law_part : ∀ ds Q, s_law_part ds Q → ds.length = p_law_part.length := fun ds Q => by
  refine fun h => ?_
  first | (obtain ⟨rfl, _⟩ := h; rfl) | (obtain ⟨_, rfl, _⟩ := h; rfl) | (obtain ⟨_, _, rfl, _⟩ := h; rfl) | (obtain ⟨_, _, _, rfl, _⟩ := h; rfl) | (obtain ⟨_, _, _, _, rfl, _⟩ := h; rfl)
abbrev N_law_lacks : List Str := [Str.ofString "lot", Str.ofString "sign", Str.ofString "word", Str.ofString "pattern"]
abbrev p_law_lacks : List Str := [Str.ofString "lot", Str.ofString "sign", Str.ofString "word"]
abbrev st_law_lacks : Stmt := topS 14
theorem sc_law_lacks : FnScope N_law_lacks p_law_lacks (defScope st_law_lacks) := ⟨rfl, rfl, rfl, by decide +kernel, rfl, by decide +kernel, by decide +kernel⟩
def rd_law_lacks : TSD :=
  (dSeq (dAsg 3 (dOp ixD (dVar 0) (dC (.int 1))))
  (dSeq (dIfS (dT (dOp eqD (dVar 1) (dC (.str (Str.ofString "1"))))) (dAsg 3 (dCall0 s_law_opposite (dCons (dVar 3) dNil))) dNext)
  (dRet (dOp neD (dCall0 s_law_part (dCons (dVar 2) (dCons (dOp ixD (dVar 0) (dC (.int 0))) dNil))) (dVar 3)))))
theorem n_law_lacks : ∀ ds Q, s_law_lacks ds Q → ds.length = p_law_lacks.length := fun ds Q => by
  refine fun h => ?_
  first | (obtain ⟨rfl, _⟩ := h; rfl) | (obtain ⟨_, rfl, _⟩ := h; rfl) | (obtain ⟨_, _, rfl, _⟩ := h; rfl) | (obtain ⟨_, _, _, rfl, _⟩ := h; rfl) | (obtain ⟨_, _, _, _, rfl, _⟩ := h; rfl)
abbrev N_law_left : List Str := [Str.ofString "bus", Str.ofString "choice", Str.ofString "left", Str.ofString "word", Str.ofString "kept", Str.ofString "k"]
abbrev p_law_left : List Str := [Str.ofString "bus", Str.ofString "choice"]
abbrev st_law_left : Stmt := topS 15
theorem sc_law_left : FnScope N_law_left p_law_left (defScope st_law_left) := ⟨rfl, rfl, rfl, by decide +kernel, rfl, by decide +kernel, by decide +kernel⟩
def rd_law_left : TSD :=
  (dSeq (dAsg 2 (dLst dNil))
  (dSeq (dFor (dgN 3) (dIt (dCall0 s_law_words (dCons (dOp ixD (dVar 0) (dC (.int 0))) dNil))) (dSeq (dAsg 4 (dC (.bool true)))
  (dSeq (dFor (dgN 5) (dRg1 (dCons (dB lenD (dCons (dOp ixD (dVar 0) (dC (.int 1))) dNil)) dNil)) (dIfS (dNot (dT (dCall0 s_law_lacks (dCons (dOp ixD (dOp ixD (dVar 0) (dC (.int 1))) (dVar 5)) (dCons (dOp ixD (dVar 1) (dVar 5)) (dCons (dVar 3) dNil)))))) (dAsg 4 (dC (.bool false))) dNext))
  (dIfS (dT (dVar 4)) (dDrop (dMt appD 2 (dCons (dVar 3) dNil))) dNext))))
  (dRet (dVar 2))))
theorem n_law_left : ∀ ds Q, s_law_left ds Q → ds.length = p_law_left.length := fun ds Q => by
  refine fun h => ?_
  first | (obtain ⟨rfl, _⟩ := h; rfl) | (obtain ⟨_, rfl, _⟩ := h; rfl) | (obtain ⟨_, _, rfl, _⟩ := h; rfl) | (obtain ⟨_, _, _, rfl, _⟩ := h; rfl) | (obtain ⟨_, _, _, _, rfl, _⟩ := h; rfl)
abbrev N_law_shuffled : List Str := [Str.ofString "stream", Str.ofString "things", Str.ofString "told", Str.ofString "thing"]
abbrev p_law_shuffled : List Str := [Str.ofString "stream", Str.ofString "things"]
abbrev st_law_shuffled : Stmt := topS 16
theorem sc_law_shuffled : FnScope N_law_shuffled p_law_shuffled (defScope st_law_shuffled) := ⟨rfl, rfl, rfl, by decide +kernel, rfl, by decide +kernel, by decide +kernel⟩
def rd_law_shuffled : TSD :=
  (dSeq (dAsg 2 (dLst dNil))
  (dSeq (dFor (dgN 3) (dIt (dVar 1)) (dDrop (dMt insD 2 (dCons (dCall1 s_law_take (dCons (dVar 0) (dCons (dOp addD (dB lenD (dCons (dVar 2) dNil)) (dC (.int 1))) dNil))) (dCons (dVar 3) dNil)))))
  (dRet (dVar 2))))
theorem n_law_shuffled : ∀ xs ds Q, s_law_shuffled xs ds Q → ds.length + 1 = p_law_shuffled.length := fun xs ds Q => by
  refine fun h => ?_
  first | (obtain ⟨rfl, _⟩ := h; rfl) | (obtain ⟨_, rfl, _⟩ := h; rfl) | (obtain ⟨_, _, rfl, _⟩ := h; rfl) | (obtain ⟨_, _, _, rfl, _⟩ := h; rfl) | (obtain ⟨_, _, _, _, rfl, _⟩ := h; rfl)
abbrev N_law_word : List Str := [Str.ofString "stream", Str.ofString "size", Str.ofString "k"]
abbrev p_law_word : List Str := [Str.ofString "stream", Str.ofString "size"]
abbrev st_law_word : Stmt := topS 17
theorem sc_law_word : FnScope N_law_word p_law_word (defScope st_law_word) := ⟨rfl, rfl, rfl, by decide +kernel, rfl, by decide +kernel, by decide +kernel⟩
def rd_law_word : TSD :=
  (dRet (dM joinD isStrD (dC (.str (Str.ofString ""))) (dCons (dLc (dgN 2) (dRg1 (dCons (dVar 1) dNil)) dYes (dOp ixD (dC (.str (Str.ofString "01"))) (dCall1 s_law_take (dCons (dVar 0) (dCons (dC (.int 2)) dNil)))) [2]) dNil)))
theorem n_law_word : ∀ xs ds Q, s_law_word xs ds Q → ds.length + 1 = p_law_word.length := fun xs ds Q => by
  refine fun h => ?_
  first | (obtain ⟨rfl, _⟩ := h; rfl) | (obtain ⟨_, rfl, _⟩ := h; rfl) | (obtain ⟨_, _, rfl, _⟩ := h; rfl) | (obtain ⟨_, _, _, rfl, _⟩ := h; rfl) | (obtain ⟨_, _, _, _, rfl, _⟩ := h; rfl)
abbrev N_law_wide_words : List Str := [Str.ofString "stream", Str.ofString "tail", Str.ofString "words", Str.ofString "word"]
abbrev p_law_wide_words : List Str := [Str.ofString "stream"]
abbrev st_law_wide_words : Stmt := topS 18
theorem sc_law_wide_words : FnScope N_law_wide_words p_law_wide_words (defScope st_law_wide_words) := ⟨rfl, rfl, rfl, by decide +kernel, rfl, by decide +kernel, by decide +kernel⟩
def rd_law_wide_words : TSD :=
  (dSeq (dAsg 1 (dCall1 s_law_word (dCons (dVar 0) (dCons (dC (.int 54)) dNil))))
  (dSeq (dAsg 2 (dLc (dgN 3) (dIt (dCall0 s_law_words (dCons (dC (.int 6)) dNil))) dYes (dOp addD (dVar 3) (dVar 1)) [3]))
  (dSeq (dIfS (dT (dOp eqD (dCall1 s_law_take (dCons (dVar 0) (dCons (dC (.int 2)) dNil))) (dC (.int 0)))) (dAsg 2 (dLc (dgN 3) (dIt (dCall0 s_law_words (dCons (dC (.int 6)) dNil))) dYes (dOp addD (dVar 1) (dVar 3)) [3])) dNext)
  (dSeq (dAsg 2 (dCall1 s_law_shuffled (dCons (dVar 0) (dCons (dVar 2) dNil))))
  (dSeq (dIfS (dT (dOp gtD (dCall1 s_law_take (dCons (dVar 0) (dCons (dC (.int 6)) dNil))) (dC (.int 0)))) (dRet (dSlice (dVar 2) doNo (doSo (dCall1 s_law_take (dCons (dVar 0) (dCons (dC (.int 13)) dNil)))))) dNext)
  (dRet (dVar 2)))))))
theorem n_law_wide_words : ∀ xs ds Q, s_law_wide_words xs ds Q → ds.length + 1 = p_law_wide_words.length := fun xs ds Q => by
  refine fun h => ?_
  first | (obtain ⟨rfl, _⟩ := h; rfl) | (obtain ⟨_, rfl, _⟩ := h; rfl) | (obtain ⟨_, _, rfl, _⟩ := h; rfl) | (obtain ⟨_, _, _, rfl, _⟩ := h; rfl) | (obtain ⟨_, _, _, _, rfl, _⟩ := h; rfl)
abbrev N_law_case : List Str := [Str.ofString "stream", Str.ofString "kind", Str.ofString "size", Str.ofString "words", Str.ofString "bus", Str.ofString "choice", Str.ofString "k", Str.ofString "word", Str.ofString "lot"]
abbrev p_law_case : List Str := [Str.ofString "stream"]
abbrev st_law_case : Stmt := topS 19
theorem sc_law_case : FnScope N_law_case p_law_case (defScope st_law_case) := ⟨rfl, rfl, rfl, by decide +kernel, rfl, by decide +kernel, by decide +kernel⟩
def rd_law_case : TSD :=
  (dSeq (dAsg 1 (dCall1 s_law_take (dCons (dVar 0) (dCons (dC (.int 12)) dNil))))
  (dSeq (dAsg 2 (dOp addD (dC (.int 1)) (dCall1 s_law_take (dCons (dVar 0) (dCons (dC (.int 8)) dNil)))))
  (dSeq (dAsg 3 (dLst dNil))
  (dSeq (dIfS (dT (dOp eqD (dVar 1) (dC (.int 0)))) (dSeq (dAsg 3 (dCall1 s_law_wide_words (dCons (dVar 0) dNil)))
  (dAsg 2 (dC (.int 60)))) (dIfS (dT (dOp ltD (dVar 1) (dC (.int 5)))) (dSeq (dAsg 2 (dOp addD (dC (.int 1)) (dCall1 s_law_take (dCons (dVar 0) (dCons (dC (.int 5)) dNil)))))
  (dSeq (dAsg 4 (dCall0 s_law_bus (dCons (dVar 2) (dCons (dCall1 s_law_lots (dCons (dVar 0) (dCons (dVar 2) (dCons (dC (.int 4)) dNil)))) dNil))))
  (dSeq (dAsg 5 (dM joinD isStrD (dC (.str (Str.ofString ""))) (dCons (dLc (dgN 8) (dIt (dOp ixD (dVar 4) (dC (.int 1)))) dYes (dOp ixD (dC (.str (Str.ofString "01"))) (dCall1 s_law_take (dCons (dVar 0) (dCons (dC (.int 2)) dNil)))) [8]) dNil)))
  (dAsg 3 (dCall1 s_law_shuffled (dCons (dVar 0) (dCons (dCall0 s_law_left (dCons (dVar 4) (dCons (dVar 5) dNil))) dNil))))))) (dSeq (dIfS (dT (dOp ltD (dVar 1) (dC (.int 9)))) (dAsg 2 (dB min2D (dCons (dVar 2) (dCons (dC (.int 4)) dNil)))) dNext)
  (dFor (dgN 6) (dRg1 (dCons (dCall1 s_law_take (dCons (dVar 0) (dCons (dC (.int 21)) dNil))) dNil)) (dSeq (dAsg 7 (dCall1 s_law_word (dCons (dVar 0) (dCons (dVar 2) dNil))))
  (dIfS (dT (dOp (inD true) (dVar 7) (dVar 3))) (dDrop (dMt appD 3 (dCons (dVar 7) dNil))) dNext))))))
  (dRet (dTup (dCons (dVar 2) (dCons (dVar 3) (dCons (dLst (dCons (dC (.int 0)) (dCons (dOp subD (dVar 2) (dC (.int 1))) (dCons (dCall1 s_law_take (dCons (dVar 0) (dCons (dVar 2) dNil))) dNil)))) (dCons (dCall1 s_law_word (dCons (dVar 0) (dCons (dVar 2) dNil))) dNil))))))))))
theorem n_law_case : ∀ xs ds Q, s_law_case xs ds Q → ds.length + 1 = p_law_case.length := fun xs ds Q => by
  refine fun h => ?_
  first | (obtain ⟨rfl, _⟩ := h; rfl) | (obtain ⟨_, rfl, _⟩ := h; rfl) | (obtain ⟨_, _, rfl, _⟩ := h; rfl) | (obtain ⟨_, _, _, rfl, _⟩ := h; rfl) | (obtain ⟨_, _, _, _, rfl, _⟩ := h; rfl)
abbrev p_law_groups : List Str := [Str.ofString "words", Str.ofString "wire", Str.ofString "sign"]
theorem n_law_groups : ∀ ds Q, s_law_groups ds Q → ds.length = p_law_groups.length := fun ds Q => by
  refine fun h => ?_
  first | (obtain ⟨rfl, _⟩ := h; rfl) | (obtain ⟨_, rfl, _⟩ := h; rfl) | (obtain ⟨_, _, rfl, _⟩ := h; rfl) | (obtain ⟨_, _, _, rfl, _⟩ := h; rfl) | (obtain ⟨_, _, _, _, rfl, _⟩ := h; rfl)
abbrev N_law_pairs : List Str := [Str.ofString "words", Str.ofString "wire", Str.ofString "pairs", Str.ofString "word"]
abbrev p_law_pairs : List Str := [Str.ofString "words", Str.ofString "wire"]
abbrev st_law_pairs : Stmt := topS 21
theorem sc_law_pairs : FnScope N_law_pairs p_law_pairs (defScope st_law_pairs) := ⟨rfl, rfl, rfl, by decide +kernel, rfl, by decide +kernel, by decide +kernel⟩
def rd_law_pairs : TSD :=
  (dSeq (dAsg 2 (dC (.int 0)))
  (dSeq (dFor (dgN 3) (dIt (dVar 0)) (dIfS (dAnd (dT (dOp eqD (dOp ixD (dVar 3) (dVar 1)) (dC (.str (Str.ofString "0"))))) (dT (dOp (inD false) (dOp addD (dOp addD (dSlice (dVar 3) doNo (doSo (dVar 1))) (dC (.str (Str.ofString "1")))) (dSlice (dVar 3) (doSo (dOp addD (dVar 1) (dC (.int 1)))) doNo)) (dVar 0)))) (dAsg 2 (dOp addD (dVar 2) (dC (.int 1)))) dNext))
  (dRet (dVar 2))))
theorem n_law_pairs : ∀ ds Q, s_law_pairs ds Q → ds.length = p_law_pairs.length := fun ds Q => by
  refine fun h => ?_
  first | (obtain ⟨rfl, _⟩ := h; rfl) | (obtain ⟨_, rfl, _⟩ := h; rfl) | (obtain ⟨_, _, rfl, _⟩ := h; rfl) | (obtain ⟨_, _, _, rfl, _⟩ := h; rfl) | (obtain ⟨_, _, _, _, rfl, _⟩ := h; rfl)
abbrev N_law_right : List Str := [Str.ofString "case", Str.ofString "size", Str.ofString "words", Str.ofString "wires", Str.ofString "other", Str.ofString "wire", Str.ofString "sign", Str.ofString "told", Str.ofString "word"]
abbrev p_law_right : List Str := [Str.ofString "case"]
abbrev st_law_right : Stmt := topS 22
theorem sc_law_right : FnScope N_law_right p_law_right (defScope st_law_right) := ⟨rfl, rfl, rfl, by decide +kernel, rfl, by decide +kernel, by decide +kernel⟩
def rd_law_right : TSD :=
  (dSeq (dAsgG (dVar 0) (dgTup 4 (dgCons (dgN 1) (dgCons (dgN 2) (dgCons (dgN 3) (dgCons (dgN 4) dgNil))))))
  (dSeq (dFor (dgN 5) (dIt (dVar 3)) (dFor (dgN 6) (dIt (dC (.str (Str.ofString "01")))) (dSeq (dAsg 7 (dCall0 sstuck_groups (dCons (dB toTupD (dCons (dVar 2) dNil)) (dCons (dVar 5) (dCons (dVar 6) dNil)))))
  (dSeq (dIfS (dNot (dT (dCall0 s_law_same (dCons (dVar 7) (dCons (dCall0 s_law_groups (dCons (dVar 2) (dCons (dVar 5) (dCons (dVar 6) dNil)))) dNil))))) (dRet (dC (.bool false))) dNext)
  (dSeq (dIfS (dT (dOp neD (dB lenD (dCons (dVar 7) dNil)) (dOp subD (dB lenD (dCons (dVar 2) dNil)) (dCall0 s_law_pairs (dCons (dVar 2) (dCons (dVar 5) dNil)))))) (dRet (dC (.bool false))) dNext)
  (dFor (dgN 8) (dIt (dOp addD (dSlice (dVar 2) doNo (doSo (dC (.int 8)))) (dLst (dCons (dVar 4) dNil)))) (dIfS (dNot (dT (dCall0 s_law_same (dCons (dCall0 sstuck_word (dCons (dVar 8) (dCons (dVar 5) (dCons (dVar 6) dNil)))) (dCons (dOp addD (dOp addD (dSlice (dVar 8) doNo (doSo (dVar 5))) (dVar 6)) (dSlice (dVar 8) (doSo (dOp addD (dVar 5) (dC (.int 1)))) doNo)) dNil))))) (dRet (dC (.bool false))) dNext)))))))
  (dRet (dC (.bool true)))))
theorem n_law_right : ∀ ds Q, s_law_right ds Q → ds.length = p_law_right.length := fun ds Q => by
  refine fun h => ?_
  first | (obtain ⟨rfl, _⟩ := h; rfl) | (obtain ⟨_, rfl, _⟩ := h; rfl) | (obtain ⟨_, _, rfl, _⟩ := h; rfl) | (obtain ⟨_, _, _, rfl, _⟩ := h; rfl) | (obtain ⟨_, _, _, _, rfl, _⟩ := h; rfl)
abbrev Nlaw : List Str := [Str.ofString "script", Str.ofString "stream", Str.ofString "first", Str.ofString "second"]
abbrev plaw : List Str := [Str.ofString "script"]
abbrev stlaw : Stmt := topS 23
theorem sclaw : FnScope Nlaw plaw (defScope stlaw) := ⟨rfl, rfl, rfl, by decide +kernel, rfl, by decide +kernel, by decide +kernel⟩
def rdlaw : TSD :=
  (dSeq (dAsg 1 (dCall0 s_law_stream (dCons (dVar 0) dNil)))
  (dSeq (dAsg 2 (dCall1 s_law_case (dCons (dVar 1) dNil)))
  (dSeq (dAsg 3 (dCall1 s_law_case (dCons (dVar 1) dNil)))
  (dRet (dAndV (dCall0 s_law_right (dCons (dVar 2) dNil)) (dAndV (dCall0 s_law_right (dCons (dVar 3) dNil)) (dCall0 s_law_right (dCons (dVar 2) dNil))))))))
theorem nlaw : ∀ ds Q, slaw ds Q → ds.length = plaw.length := fun ds Q => by
  refine fun h => ?_
  first | (obtain ⟨rfl, _⟩ := h; rfl) | (obtain ⟨_, rfl, _⟩ := h; rfl) | (obtain ⟨_, _, rfl, _⟩ := h; rfl) | (obtain ⟨_, _, _, rfl, _⟩ := h; rfl) | (obtain ⟨_, _, _, _, rfl, _⟩ := h; rfl)
section
variable {P : Program} {w : World} {K : PySem.W.Frag} {mg : Str → Option Value} {base : Heap}
theorem bdstuck_word    (f : Addr) (cdv : Value) (A : Around) (outer : List Env) (s1 : Shared) (H : Hp) (E : XK) (hr : RoomG 0 (A.deeper (envOfC (Str.ofString "stuck_word") (defScope ststuck_word) s1.heap.objs.size f cdv))) :
    PSsD (cxOf CX0 P w K mg base Nstuck_word (Str.ofString "stuck_word") (defScope ststuck_word) f cdv A outer s1 H E).nox [] (defBody ststuck_word) rdstuck_word := by
  have nd : Nstuck_word.Nodup := scstuck_word.nd
  exact (pssd_one (psd_ret (pd_op opr_add o2_add (pd_op opr_add o2_add (pd_slice (pd_var (pv 0)) pod_no (pod_so (pd_var (pv 1)))) (pd_var (pv 2))) (pd_slice (pd_var (pv 0)) (pod_so (pd_op opr_add o2_add (pd_var (pv 1)) pd_int)) pod_no))))
theorem bd_law_stream  (z_abs : mg (Str.ofString "abs") = none) (z_int : mg (Str.ofString "int") = none) (z_len : mg (Str.ofString "len") = none) (z_min : mg (Str.ofString "min") = none) (z_range : mg (Str.ofString "range") = none)  (f : Addr) (cdv : Value) (A : Around) (outer : List Env) (s1 : Shared) (H : Hp) (E : XK) (hr : RoomG 0 (A.deeper (envOfC (Str.ofString "_law_stream") (defScope st_law_stream) s1.heap.objs.size f cdv))) :
    PSsD (cxOf CX0 P w K mg base N_law_stream (Str.ofString "_law_stream") (defScope st_law_stream) f cdv A outer s1 H E).nox [] (defBody st_law_stream) rd_law_stream := by
  have nd : N_law_stream.Nodup := sc_law_stream.nd
  exact (pssd_cons (psd_set (i := 1) nd rfl (Or.inl rfl) (by decide) (pd_lst pad_nil))
    (pssd_cons (psd_set (i := 2) nd rfl (Or.inl rfl) (by decide) pd_int)
    (pssd_cons (psd_for PassesOwn.never rfl (pid_range1 rfl z_range (pad_cons (pd_b (call_min2 rfl) on_min2 z_min (pad_cons (pd_b cr_len on_len z_len (pad_cons (pd_var (pv 0)) pad_nil)) (pad_cons pd_int pad_nil))) pad_nil)) (pgd_name (i := 3) nd rfl (Or.inl rfl) (by decide)) (pssd_cons (psd_set (i := 4) nd rfl (Or.inl rfl) (by decide) (pd_b call_abs on_abs z_abs (pad_cons (pd_ty cr_toInt on_toInt z_int (pad_cons (pd_ix ix_seq o2_ix (pd_var (pv 0)) (pd_var (pv 3))) pad_nil)) pad_nil)))
    (pssd_cons (psd_set (i := 2) nd rfl (Or.inl rfl) (by decide) (pd_op op_mod o2_mod (pd_ty cr_toInt on_toInt z_int (pad_cons (pd_op opr_add o2_add (pd_op opr_add o2_add (pd_op opr_add o2_add (pd_op op_mul o2_mul (pd_var (pv 2)) pd_int) (pd_op op_mul o2_mul (pd_var (pv 4)) pd_int)) (pd_var (pv 3))) pd_int) pad_nil)) pd_int))
    (pssd_one (psd_if (ptd_cmp op_ge o2_ge (pd_var (pv 4)) (pd_op op_pow o2_pow pd_int pd_int) (nomark _)) (pssd_one (psd_for PassesOwn.never rfl (pid_range1 rfl z_range (pad_cons pd_int pad_nil)) (pgd_name (i := 5) nd rfl (Or.inl rfl) (by decide)) (pssd_one (psd_if (ptd_cmp op_gt o2_gt (pd_var (pv 4)) pd_int (nomark _)) (pssd_cons (psd_expr (pd_mt PySem.F.slot_list_append PySem.F.type_list_append mt_append ow_app (pv 1) (pad_cons (pd_op op_mod o2_mod (pd_ty cr_toInt on_toInt z_int (pad_cons (pd_var (pv 4)) pad_nil)) pd_int) pad_nil)))
    (pssd_one (psd_set (i := 4) nd rfl (Or.inl rfl) (by decide) (pd_op op_fdiv o2_fdiv (pd_var (pv 4)) pd_int)))) pssd_nil)))) (pssd_cons (psd_set (i := 6) nd rfl (Or.inl rfl) (by decide) (pd_var (pv 2)))
    (pssd_one (psd_for PassesOwn.never rfl (pid_range1 rfl z_range (pad_cons pd_int pad_nil)) (pgd_name (i := 5) nd rfl (Or.inl rfl) (by decide)) (pssd_cons (psd_set (i := 6) nd rfl (Or.inl rfl) (by decide) (pd_op op_mod o2_mod (pd_ty cr_toInt on_toInt z_int (pad_cons (pd_op opr_add o2_add (pd_op opr_add o2_add (pd_op op_mul o2_mul (pd_var (pv 6)) pd_int) (pd_var (pv 4))) (pd_var (pv 5))) pad_nil)) pd_int))
    (pssd_one (psd_expr (pd_mt PySem.F.slot_list_append PySem.F.type_list_append mt_append ow_app (pv 1) (pad_cons (pd_op op_mod o2_mod (pd_op op_fdiv o2_fdiv (pd_var (pv 6)) pd_int) pd_int) pad_nil)))))))))))))
    (pssd_cons (psd_expr (pd_mt0 PySem.F.slot_list_reverse PySem.F.type_list_reverse mt_reverse ow_rev (pv 1)))
    (pssd_one (psd_ret (pd_op opr_add o2_add (pd_lst (pad_cons (pd_var (pv 2)) pad_nil)) (pd_var (pv 1)))))))))
theorem bd_law_take  (z_int : mg (Str.ofString "int") = none) (z_len : mg (Str.ofString "len") = none)  (f : Addr) (cdv : Value) (A : Around) (outer : List Env) (s1 : Shared) (H : Hp) (E : XK) (hr : RoomG 0 (A.deeper (envOfC (Str.ofString "_law_take") (defScope st_law_take) s1.heap.objs.size f cdv))) :
    PSsD (cxOf CX0 P w K mg base N_law_take (Str.ofString "_law_take") (defScope st_law_take) f cdv A outer s1 H E).nox [0] (defBody st_law_take) rd_law_take := by
  have nd : N_law_take.Nodup := sc_law_take.nd
  exact (pssd_cons (psd_if (ptd_cmp op_gt o2_gt (pd_b cr_len on_len z_len (pad_cons (pd_var (pv 0)) pad_nil)) pd_int (nomark _)) (pssd_one (psd_ret (pd_op op_mod o2_mod (pd_ty cr_toInt on_toInt z_int (pad_cons (pd_mt0 PySem.F.slot_list_pop PySem.F.type_list_pop mt_pop ow_pop (pv 0)) pad_nil)) (pd_var (pv 1))))) pssd_nil)
    (pssd_cons (psd_asg (pd_op op_mod o2_mod (pd_ty cr_toInt on_toInt z_int (pad_cons (pd_op opr_add o2_add (pd_op op_mul o2_mul (pd_ix ix_seq o2_ix (pd_var (pv 0)) pd_int) pd_int) pd_int) pad_nil)) pd_int) (pgd_sub (pv 0) pd_int (fun c hc => pg_sub (pv 0) ((pd_int).pe c hc) set_list)))
    (pssd_one (psd_ret (pd_op op_mod o2_mod (pd_op op_fdiv o2_fdiv (pd_ty cr_toInt on_toInt z_int (pad_cons (pd_ix ix_seq o2_ix (pd_var (pv 0)) pd_int) pad_nil)) pd_int) (pd_var (pv 1)))))))
theorem bd_law_same  (z_repr : mg (Str.ofString "repr") = none)  (f : Addr) (cdv : Value) (A : Around) (outer : List Env) (s1 : Shared) (H : Hp) (E : XK) (hr : RoomG 0 (A.deeper (envOfC (Str.ofString "_law_same") (defScope st_law_same) s1.heap.objs.size f cdv))) :
    PSsD (cxOf CX0 P w K mg base N_law_same (Str.ofString "_law_same") (defScope st_law_same) f cdv A outer s1 H E).nox [] (defBody st_law_same) rd_law_same := by
  have nd : N_law_same.Nodup := sc_law_same.nd
  exact (pssd_one (psd_ret (pd_and (pd_cmp (opr_eq hr.u64) o2_eq (pd_b (cr_repr hr.g hr.u65) on_repr z_repr (pad_cons (pd_var (pv 0)) pad_nil)) (pd_b (cr_repr hr.g hr.u65) on_repr z_repr (pad_cons (pd_var (pv 1)) pad_nil)) (nomark _)) (pd_one (pd_cmp (opr_eq hr.u64) o2_eq (pd_var (pv 0)) (pd_var (pv 1)) (nomark _))))))
theorem bd_law_lot (d_law_take : Df P w K mg base CX0 1 (Str.ofString "_law_take") p_law_take (spOf1 K p_law_take.length s_law_take)) (z_range : mg (Str.ofString "range") = none) (z_tuple : mg (Str.ofString "tuple") = none)  (f : Addr) (cdv : Value) (A : Around) (outer : List Env) (s1 : Shared) (H : Hp) (E : XK) (hr : RoomG 1 (A.deeper (envOfC (Str.ofString "_law_lot") (defScope st_law_lot) s1.heap.objs.size f cdv))) :
    PSsD (cxOf CX0 P w K mg base N_law_lot (Str.ofString "_law_lot") (defScope st_law_lot) f cdv A outer s1 H E).nox [0] (defBody st_law_lot) rd_law_lot := by
  have nd : N_law_lot.Nodup := sc_law_lot.nd
  exact (pssd_cons (psd_set (i := 3) nd rfl (Or.inl rfl) (by decide) (pd_lst pad_nil))
    (pssd_cons (psd_for PassesOwn.never rfl (pid_range1 rfl z_range (pad_cons (pd_op opr_add o2_add pd_int (pd_call1 (Df.d d_law_take) n_law_take (hr.mono (by decide)) pass0 rfl (pad_cons (pd_var (pv 0)) (pad_cons (pd_var (pv 2)) pad_nil)))) pad_nil)) (pgd_name (i := 4) nd rfl (Or.inl rfl) (by decide)) (pssd_cons (psd_set (i := 5) nd rfl (Or.inl rfl) (by decide) (pd_call1 (Df.d d_law_take) n_law_take (hr.mono (by decide)) pass0 rfl (pad_cons (pd_var (pv 0)) (pad_cons (pd_var (pv 1)) pad_nil))))
    (pssd_one (psd_if (ptd_cmp (opr_notIn hr.u65) o2_notIn (pd_var (pv 5)) (pd_var (pv 3)) (by rfl)) (pssd_one (psd_expr (pd_mt PySem.F.slot_list_append PySem.F.type_list_append mt_append ow_app (pv 3) (pad_cons (pd_var (pv 5)) pad_nil)))) pssd_nil))))
    (pssd_cons (psd_set (i := 6) nd rfl (Or.inl rfl) (by decide) (pd_m PySem.F.plainAttrs_str PySem.F.slot_str_join PySem.F.type_str_join mt_join om_join ty_str pd_str (pad_cons (pd_lc (own := [(Str.ofString "wire", 5)]) rfl nd (pid_it (pd_var (pv 3))) (blkOk_by (by walk_at "bk")) (by decide) (by decide) (fun _ _ _ _ _ => (pgd_name (i := 5) nd rfl (Or.inl rfl) (by decide))) (fun _ _ _ _ _ => ptsd_nil) (fun _ _ _ _ _ => (pd_ix ix_seq o2_ix pd_str (pd_call1 (Df.d d_law_take) n_law_take (hr.mono (by decide)) pass0 rfl (pad_cons (pd_var (pv 0)) (pad_cons pd_int pad_nil)))))) pad_nil)))
    (pssd_one (psd_ret (pd_tup (pad_cons (pd_ty call_tuple_of on_toTup z_tuple (pad_cons (pd_var (pv 3)) pad_nil)) (pad_cons (pd_var (pv 6)) pad_nil))))))))
theorem bd_law_lots (d_law_take : Df P w K mg base CX0 1 (Str.ofString "_law_take") p_law_take (spOf1 K p_law_take.length s_law_take)) (d_law_lot : Df P w K mg base CX0 2 (Str.ofString "_law_lot") p_law_lot (spOf1 K p_law_lot.length s_law_lot)) (z_len : mg (Str.ofString "len") = none) (z_range : mg (Str.ofString "range") = none) (z_str : mg (Str.ofString "str") = none)  (f : Addr) (cdv : Value) (A : Around) (outer : List Env) (s1 : Shared) (H : Hp) (E : XK) (hr : RoomG 2 (A.deeper (envOfC (Str.ofString "_law_lots") (defScope st_law_lots) s1.heap.objs.size f cdv))) :
    PSsD (cxOf CX0 P w K mg base N_law_lots (Str.ofString "_law_lots") (defScope st_law_lots) f cdv A outer s1 H E).nox [0] (defBody st_law_lots) rd_law_lots := by
  have nd : N_law_lots.Nodup := sc_law_lots.nd
  exact (pssd_cons (psd_set (i := 3) nd rfl (Or.inr rfl) (by decide) (pd_lc (own := [(Str.ofString "k", 6)]) rfl nd (pid_range1 rfl z_range (pad_cons (pd_var (pv 1)) pad_nil)) (blkOk_by (by walk_at "bk")) (by decide) (by decide) (fun _ _ _ _ _ => (pgd_name (i := 6) nd rfl (Or.inl rfl) (by decide))) (fun _ _ _ _ _ => ptsd_nil) (fun _ _ _ _ _ => (pd_call1 (Df.d d_law_take) n_law_take (hr.mono (by decide)) pass0 rfl (pad_cons (pd_var (pv 0)) (pad_cons pd_int pad_nil))))))
    (pssd_cons (psd_set (i := 4) nd rfl (Or.inl rfl) (by decide) (pd_call1 (Df.d d_law_take) n_law_take (hr.mono (by decide)) pass0 rfl (pad_cons (pd_var (pv 0)) (pad_cons pd_int pad_nil))))
    (pssd_cons (psd_set (i := 5) nd rfl (Or.inl rfl) (by decide) (pd_lst pad_nil))
    (pssd_cons (psd_for PassesOwn.never rfl (pid_range1 rfl z_range (pad_cons (pd_call1 (Df.d d_law_take) n_law_take (hr.mono (by decide)) pass0 rfl (pad_cons (pd_var (pv 0)) (pad_cons (pd_op opr_add o2_add (pd_var (pv 2)) pd_int) pad_nil))) pad_nil)) (pgd_name (i := 6) nd rfl (Or.inl rfl) (by decide)) (pssd_cons (psd_set (i := 7) nd rfl (Or.inl rfl) (by decide) (pd_call1 (Df.d d_law_lot) n_law_lot (hr.mono (by decide)) pass0 rfl (pad_cons (pd_var (pv 0)) (pad_cons (pd_var (pv 1)) (pad_cons pd_int pad_nil)))))
    (pssd_cons (psd_if (PWD.pt (pwd_and (ptd_cmp (opr_eq hr.u64) o2_eq (pd_var (pv 4)) pd_int (nomark _)) (pwd_and1 (ptd_cmp op_gt o2_gt (pd_var (pv 1)) pd_int (nomark _))))) (pssd_one (psd_set (i := 7) nd rfl (Or.inl rfl) (by decide) (pd_tup (pad_cons (pd_tup (pad_cons (pd_op op_mod o2_mod (pd_var (pv 6)) (pd_var (pv 1))) (pad_cons (pd_op op_mod o2_mod (pd_op opr_add o2_add (pd_var (pv 6)) pd_int) (pd_var (pv 1))) pad_nil))) (pad_cons pd_str pad_nil))))) (pssd_one (psd_if (ptd_cmp (opr_eq hr.u64) o2_eq (pd_var (pv 4)) pd_int (nomark _)) (pssd_one (psd_set (i := 7) nd rfl (Or.inl rfl) (by decide) (pd_tup (pad_cons (pd_ix ix_seq o2_ix (pd_var (pv 7)) pd_int) (pad_cons (pd_m PySem.F.plainAttrs_str PySem.F.slot_str_join PySem.F.type_str_join mt_join om_join ty_str pd_str (pad_cons (pd_lc (own := [(Str.ofString "wire", 9)]) rfl nd (pid_it (pd_ix ix_seq o2_ix (pd_var (pv 7)) pd_int)) (blkOk_by (by walk_at "bk")) (by decide) (by decide) (fun _ _ _ _ _ => (pgd_name (i := 9) nd rfl (Or.inl rfl) (by decide))) (fun _ _ _ _ _ => ptsd_nil) (fun _ _ _ _ _ => (pd_ty call_str_int on_toStr z_str (pad_cons (pd_ix ix_seq o2_ix (pd_var (pv 3)) (pd_var (pv 9))) pad_nil)))) pad_nil)) pad_nil))))) (pssd_one (psd_if (PWD.pt (pwd_and (ptd_cmp (opr_eq hr.u64) o2_eq (pd_var (pv 4)) pd_int (nomark _)) (pwd_and (ptd_cmp op_gt o2_gt (pd_b cr_len on_len z_len (pad_cons (pd_var (pv 5)) pad_nil)) pd_int (nomark _)) (pwd_and1 (ptd_cmp (opr_eq hr.u64) o2_eq (pd_call1 (Df.d d_law_take) n_law_take (hr.mono (by decide)) pass0 rfl (pad_cons (pd_var (pv 0)) (pad_cons pd_int pad_nil))) pd_int (nomark _)))))) (pssd_cons (psd_set (i := 8) nd rfl (Or.inl rfl) (by decide) (pd_ix ix_seq o2_ix (pd_ix ix_seq o2_ix (pd_var (pv 5)) (pd_call1 (Df.d d_law_take) n_law_take (hr.mono (by decide)) pass0 rfl (pad_cons (pd_var (pv 0)) (pad_cons (pd_b cr_len on_len z_len (pad_cons (pd_var (pv 5)) pad_nil)) pad_nil)))) pd_int))
    (pssd_one (psd_set (i := 7) nd rfl (Or.inl rfl) (by decide) (pd_tup (pad_cons (pd_var (pv 8)) (pad_cons (pd_m PySem.F.plainAttrs_str PySem.F.slot_str_join PySem.F.type_str_join mt_join om_join ty_str pd_str (pad_cons (pd_lc (own := [(Str.ofString "wire", 9)]) rfl nd (pid_it (pd_var (pv 8))) (blkOk_by (by walk_at "bk")) (by decide) (by decide) (fun _ _ _ _ _ => (pgd_name (i := 9) nd rfl (Or.inl rfl) (by decide))) (fun _ _ _ _ _ => ptsd_nil) (fun _ _ _ _ _ => (pd_ix ix_seq o2_ix pd_str (pd_call1 (Df.d d_law_take) n_law_take (hr.mono (by decide)) pass0 rfl (pad_cons (pd_var (pv 0)) (pad_cons pd_int pad_nil)))))) pad_nil)) pad_nil)))))) pssd_nil)))))
    (pssd_one (psd_expr (pd_mt PySem.F.slot_list_append PySem.F.type_list_append mt_append ow_app (pv 5) (pad_cons (pd_var (pv 7)) pad_nil)))))))
    (pssd_one (psd_ret (pd_var (pv 5))))))))
theorem bd_law_opposite  (z_int : mg (Str.ofString "int") = none)  (f : Addr) (cdv : Value) (A : Around) (outer : List Env) (s1 : Shared) (H : Hp) (E : XK) (hr : RoomG 0 (A.deeper (envOfC (Str.ofString "_law_opposite") (defScope st_law_opposite) s1.heap.objs.size f cdv))) :
    PSsD (cxOf CX0 P w K mg base N_law_opposite (Str.ofString "_law_opposite") (defScope st_law_opposite) f cdv A outer s1 H E).nox [] (defBody st_law_opposite) rd_law_opposite := by
  have nd : N_law_opposite.Nodup := sc_law_opposite.nd
  exact (pssd_one (psd_ret (pd_m PySem.F.plainAttrs_str PySem.F.slot_str_join PySem.F.type_str_join mt_join om_join ty_str pd_str (pad_cons (pd_lc (own := [(Str.ofString "sign", 1)]) rfl nd (pid_it (pd_var (pv 0))) (blkOk_by (by walk_at "bk")) (by decide) (by decide) (fun _ _ _ _ _ => (pgd_name (i := 1) nd rfl (Or.inl rfl) (by decide))) (fun _ _ _ _ _ => ptsd_nil) (fun _ _ _ _ _ => (pd_ix ix_seq o2_ix pd_str (pd_ty cr_toInt on_toInt z_int (pad_cons (pd_var (pv 1)) pad_nil))))) pad_nil))))
theorem bd_law_standard (d_law_opposite : Df P w K mg base CX0 1 (Str.ofString "_law_opposite") p_law_opposite (spOf0 K p_law_opposite.length s_law_opposite)) (z_len : mg (Str.ofString "len") = none) (z_range : mg (Str.ofString "range") = none) (z_sorted : mg (Str.ofString "sorted") = none) (z_tuple : mg (Str.ofString "tuple") = none)  (f : Addr) (cdv : Value) (A : Around) (outer : List Env) (s1 : Shared) (H : Hp) (E : XK) (hr : RoomG 1 (A.deeper (envOfC (Str.ofString "_law_standard") (defScope st_law_standard) s1.heap.objs.size f cdv))) :
    PSsD (cxOf CX0 P w K mg base N_law_standard (Str.ofString "_law_standard") (defScope st_law_standard) f cdv A outer s1 H E).nox [] (defBody st_law_standard) rd_law_standard := by
  have nd : N_law_standard.Nodup := sc_law_standard.nd
  exact (pssd_cons (psd_set (i := 1) nd rfl (Or.inl rfl) (by decide) (pd_b (cr_sort hr.u66) on_sort z_sorted (pad_cons (pd_lc (own := [(Str.ofString "k", 3)]) rfl nd (pid_range1 rfl z_range (pad_cons (pd_b cr_len on_len z_len (pad_cons (pd_ix ix_seq o2_ix (pd_var (pv 0)) pd_int) pad_nil)) pad_nil)) (blkOk_by (by walk_at "bk")) (by decide) (by decide) (fun _ _ _ _ _ => (pgd_name (i := 3) nd rfl (Or.inl rfl) (by decide))) (fun _ _ _ _ _ => ptsd_nil) (fun _ _ _ _ _ => (pd_tup (pad_cons (pd_ix ix_seq o2_ix (pd_ix ix_seq o2_ix (pd_var (pv 0)) pd_int) (pd_var (pv 3))) (pad_cons (pd_ix ix_seq o2_ix (pd_ix ix_seq o2_ix (pd_var (pv 0)) pd_int) (pd_var (pv 3))) pad_nil))))) pad_nil)))
    (pssd_cons (psd_set (i := 2) nd rfl (Or.inl rfl) (by decide) (pd_m PySem.F.plainAttrs_str PySem.F.slot_str_join PySem.F.type_str_join mt_join om_join ty_str pd_str (pad_cons (pd_lc (own := [(Str.ofString "pair", 4)]) rfl nd (pid_it (pd_var (pv 1))) (blkOk_by (by walk_at "bk")) (by decide) (by decide) (fun _ _ _ _ _ => (pgd_name (i := 4) nd rfl (Or.inl rfl) (by decide))) (fun _ _ _ _ _ => ptsd_nil) (fun _ _ _ _ _ => (pd_ix ix_seq o2_ix (pd_var (pv 4)) pd_int))) pad_nil)))
    (pssd_cons (psd_if (ptd_cmp (opr_eq hr.u64) o2_eq (pd_ix ix_seq o2_ix (pd_var (pv 2)) pd_int) pd_str (nomark _)) (pssd_one (psd_set (i := 2) nd rfl (Or.inl rfl) (by decide) (pd_call0 (Df.d d_law_opposite) n_law_opposite (hr.mono (by decide)) pass0 rfl (pad_cons (pd_var (pv 2)) pad_nil)))) pssd_nil)
    (pssd_one (psd_ret (pd_tup (pad_cons (pd_ty call_tuple_of on_toTup z_tuple (pad_cons (pd_lc (own := [(Str.ofString "pair", 4)]) rfl nd (pid_it (pd_var (pv 1))) (blkOk_by (by walk_at "bk")) (by decide) (by decide) (fun _ _ _ _ _ => (pgd_name (i := 4) nd rfl (Or.inl rfl) (by decide))) (fun _ _ _ _ _ => ptsd_nil) (fun _ _ _ _ _ => (pd_ix ix_seq o2_ix (pd_var (pv 4)) pd_int))) pad_nil)) (pad_cons (pd_var (pv 2)) pad_nil))))))))
theorem bd_law_bus (d_law_standard : Df P w K mg base CX0 2 (Str.ofString "_law_standard") p_law_standard (spOf0 K p_law_standard.length s_law_standard)) (z_sorted : mg (Str.ofString "sorted") = none) (z_tuple : mg (Str.ofString "tuple") = none)  (f : Addr) (cdv : Value) (A : Around) (outer : List Env) (s1 : Shared) (H : Hp) (E : XK) (hr : RoomG 2 (A.deeper (envOfC (Str.ofString "_law_bus") (defScope st_law_bus) s1.heap.objs.size f cdv))) :
    PSsD (cxOf CX0 P w K mg base N_law_bus (Str.ofString "_law_bus") (defScope st_law_bus) f cdv A outer s1 H E).nox [] (defBody st_law_bus) rd_law_bus := by
  have nd : N_law_bus.Nodup := sc_law_bus.nd
  exact (pssd_cons (psd_set (i := 2) nd rfl (Or.inl rfl) (by decide) (pd_lst pad_nil))
    (pssd_cons (psd_for PassesOwn.never rfl (pid_it (pd_b (cr_sort hr.u66) on_sort z_sorted (pad_cons (pd_lc (own := [(Str.ofString "lot", 3)]) rfl nd (pid_it (pd_var (pv 1))) (blkOk_by (by walk_at "bk")) (by decide) (by decide) (fun _ _ _ _ _ => (pgd_name (i := 3) nd rfl (Or.inl rfl) (by decide))) (fun _ _ _ _ _ => ptsd_nil) (fun _ _ _ _ _ => (pd_call0 (Df.d d_law_standard) n_law_standard (hr.mono (by decide)) pass0 rfl (pad_cons (pd_var (pv 3)) pad_nil)))) pad_nil))) (pgd_name (i := 3) nd rfl (Or.inl rfl) (by decide)) (pssd_one (psd_if (ptd_cmp (opr_notIn hr.u65) o2_notIn (pd_var (pv 3)) (pd_var (pv 2)) (by rfl)) (pssd_one (psd_expr (pd_mt PySem.F.slot_list_append PySem.F.type_list_append mt_append ow_app (pv 2) (pad_cons (pd_var (pv 3)) pad_nil)))) pssd_nil)))
    (pssd_one (psd_ret (pd_tup (pad_cons (pd_var (pv 0)) (pad_cons (pd_ty call_tuple_of on_toTup z_tuple (pad_cons (pd_var (pv 2)) pad_nil)) pad_nil)))))))
theorem bd_law_words  (z_range : mg (Str.ofString "range") = none)  (f : Addr) (cdv : Value) (A : Around) (outer : List Env) (s1 : Shared) (H : Hp) (E : XK) (hr : RoomG 0 (A.deeper (envOfC (Str.ofString "_law_words") (defScope st_law_words) s1.heap.objs.size f cdv))) :
    PSsD (cxOf CX0 P w K mg base N_law_words (Str.ofString "_law_words") (defScope st_law_words) f cdv A outer s1 H E).nox [] (defBody st_law_words) rd_law_words := by
  have nd : N_law_words.Nodup := sc_law_words.nd
  exact (pssd_cons (psd_set (i := 1) nd rfl (Or.inl rfl) (by decide) (pd_lst (pad_cons pd_str pad_nil)))
    (pssd_cons (psd_for PassesOwn.never rfl (pid_range1 rfl z_range (pad_cons (pd_var (pv 0)) pad_nil)) (pgd_name (i := 2) nd rfl (Or.inl rfl) (by decide)) (pssd_cons (psd_set (i := 3) nd rfl (Or.inl rfl) (by decide) (pd_lst pad_nil))
    (pssd_cons (psd_for PassesOwn.never rfl (pid_it (pd_var (pv 1))) (pgd_name (i := 4) nd rfl (Or.inl rfl) (by decide)) (pssd_cons (psd_expr (pd_mt PySem.F.slot_list_append PySem.F.type_list_append mt_append ow_app (pv 3) (pad_cons (pd_op opr_add o2_add (pd_var (pv 4)) pd_str) pad_nil)))
    (pssd_one (psd_expr (pd_mt PySem.F.slot_list_append PySem.F.type_list_append mt_append ow_app (pv 3) (pad_cons (pd_op opr_add o2_add (pd_var (pv 4)) pd_str) pad_nil))))))
    (pssd_one (psd_set (i := 1) nd rfl (Or.inl rfl) (by decide) (pd_var (pv 3)))))))
    (pssd_one (psd_ret (pd_var (pv 1))))))
theorem bd_law_part    (f : Addr) (cdv : Value) (A : Around) (outer : List Env) (s1 : Shared) (H : Hp) (E : XK) (hr : RoomG 0 (A.deeper (envOfC (Str.ofString "_law_part") (defScope st_law_part) s1.heap.objs.size f cdv))) :
    PSsD (cxOf CX0 P w K mg base N_law_part (Str.ofString "_law_part") (defScope st_law_part) f cdv A outer s1 H E).nox [] (defBody st_law_part) rd_law_part := by
  have nd : N_law_part.Nodup := sc_law_part.nd
  exact (pssd_one (psd_ret (pd_m PySem.F.plainAttrs_str PySem.F.slot_str_join PySem.F.type_str_join mt_join om_join ty_str pd_str (pad_cons (pd_lc (own := [(Str.ofString "wire", 2)]) rfl nd (pid_it (pd_var (pv 1))) (blkOk_by (by walk_at "bk")) (by decide) (by decide) (fun _ _ _ _ _ => (pgd_name (i := 2) nd rfl (Or.inl rfl) (by decide))) (fun _ _ _ _ _ => ptsd_nil) (fun _ _ _ _ _ => (pd_ix ix_seq o2_ix (pd_var (pv 0)) (pd_var (pv 2))))) pad_nil))))
theorem bd_law_lacks (d_law_opposite : Df P w K mg base CX0 1 (Str.ofString "_law_opposite") p_law_opposite (spOf0 K p_law_opposite.length s_law_opposite)) (d_law_part : Df P w K mg base CX0 1 (Str.ofString "_law_part") p_law_part (spOf0 K p_law_part.length s_law_part))   (f : Addr) (cdv : Value) (A : Around) (outer : List Env) (s1 : Shared) (H : Hp) (E : XK) (hr : RoomG 1 (A.deeper (envOfC (Str.ofString "_law_lacks") (defScope st_law_lacks) s1.heap.objs.size f cdv))) :
    PSsD (cxOf CX0 P w K mg base N_law_lacks (Str.ofString "_law_lacks") (defScope st_law_lacks) f cdv A outer s1 H E).nox [] (defBody st_law_lacks) rd_law_lacks := by
  have nd : N_law_lacks.Nodup := sc_law_lacks.nd
  exact (pssd_cons (psd_set (i := 3) nd rfl (Or.inl rfl) (by decide) (pd_ix ix_seq o2_ix (pd_var (pv 0)) pd_int))
    (pssd_cons (psd_if (ptd_cmp (opr_eq hr.u64) o2_eq (pd_var (pv 1)) pd_str (nomark _)) (pssd_one (psd_set (i := 3) nd rfl (Or.inl rfl) (by decide) (pd_call0 (Df.d d_law_opposite) n_law_opposite (hr.mono (by decide)) pass0 rfl (pad_cons (pd_var (pv 3)) pad_nil)))) pssd_nil)
    (pssd_one (psd_ret (pd_cmp (opr_ne hr.u64) o2_ne (pd_call0 (Df.d d_law_part) n_law_part (hr.mono (by decide)) pass0 rfl (pad_cons (pd_var (pv 2)) (pad_cons (pd_ix ix_seq o2_ix (pd_var (pv 0)) pd_int) pad_nil))) (pd_var (pv 3)) (nomark _))))))
theorem bd_law_left (d_law_words : Df P w K mg base CX0 1 (Str.ofString "_law_words") p_law_words (spOf0 K p_law_words.length s_law_words)) (d_law_lacks : Df P w K mg base CX0 2 (Str.ofString "_law_lacks") p_law_lacks (spOf0 K p_law_lacks.length s_law_lacks)) (z_len : mg (Str.ofString "len") = none) (z_range : mg (Str.ofString "range") = none)  (f : Addr) (cdv : Value) (A : Around) (outer : List Env) (s1 : Shared) (H : Hp) (E : XK) (hr : RoomG 2 (A.deeper (envOfC (Str.ofString "_law_left") (defScope st_law_left) s1.heap.objs.size f cdv))) :
    PSsD (cxOf CX0 P w K mg base N_law_left (Str.ofString "_law_left") (defScope st_law_left) f cdv A outer s1 H E).nox [] (defBody st_law_left) rd_law_left := by
  have nd : N_law_left.Nodup := sc_law_left.nd
  exact (pssd_cons (psd_set (i := 2) nd rfl (Or.inl rfl) (by decide) (pd_lst pad_nil))
    (pssd_cons (psd_for PassesOwn.never rfl (pid_it (pd_call0 (Df.d d_law_words) n_law_words (hr.mono (by decide)) pass0 rfl (pad_cons (pd_ix ix_seq o2_ix (pd_var (pv 0)) pd_int) pad_nil))) (pgd_name (i := 3) nd rfl (Or.inl rfl) (by decide)) (pssd_cons (psd_set (i := 4) nd rfl (Or.inl rfl) (by decide) pd_bl)
    (pssd_cons (psd_for PassesOwn.never rfl (pid_range1 rfl z_range (pad_cons (pd_b cr_len on_len z_len (pad_cons (pd_ix ix_seq o2_ix (pd_var (pv 0)) pd_int) pad_nil)) pad_nil)) (pgd_name (i := 5) nd rfl (Or.inl rfl) (by decide)) (pssd_one (psd_if (ptd_not (ptd_val (pd_call0 (Df.d d_law_lacks) n_law_lacks (hr.mono (by decide)) pass0 rfl (pad_cons (pd_ix ix_seq o2_ix (pd_ix ix_seq o2_ix (pd_var (pv 0)) pd_int) (pd_var (pv 5))) (pad_cons (pd_ix ix_seq o2_ix (pd_var (pv 1)) (pd_var (pv 5))) (pad_cons (pd_var (pv 3)) pad_nil)))))) (pssd_one (psd_set (i := 4) nd rfl (Or.inl rfl) (by decide) pd_bl)) pssd_nil)))
    (pssd_one (psd_if (ptd_val (pd_var (pv 4))) (pssd_one (psd_expr (pd_mt PySem.F.slot_list_append PySem.F.type_list_append mt_append ow_app (pv 2) (pad_cons (pd_var (pv 3)) pad_nil)))) pssd_nil)))))
    (pssd_one (psd_ret (pd_var (pv 2))))))
theorem bd_law_shuffled (d_law_take : Df P w K mg base CX0 1 (Str.ofString "_law_take") p_law_take (spOf1 K p_law_take.length s_law_take)) (z_len : mg (Str.ofString "len") = none)  (f : Addr) (cdv : Value) (A : Around) (outer : List Env) (s1 : Shared) (H : Hp) (E : XK) (hr : RoomG 1 (A.deeper (envOfC (Str.ofString "_law_shuffled") (defScope st_law_shuffled) s1.heap.objs.size f cdv))) :
    PSsD (cxOf CX0 P w K mg base N_law_shuffled (Str.ofString "_law_shuffled") (defScope st_law_shuffled) f cdv A outer s1 H E).nox [0] (defBody st_law_shuffled) rd_law_shuffled := by
  have nd : N_law_shuffled.Nodup := sc_law_shuffled.nd
  exact (pssd_cons (psd_set (i := 2) nd rfl (Or.inl rfl) (by decide) (pd_lst pad_nil))
    (pssd_cons (psd_for PassesOwn.never rfl (pid_it (pd_var (pv 1))) (pgd_name (i := 3) nd rfl (Or.inl rfl) (by decide)) (pssd_one (psd_expr (pd_mt PySem.F.slot_list_insert PySem.F.type_list_insert mt_insert ow_ins (pv 2) (pad_cons (pd_call1 (Df.d d_law_take) n_law_take (hr.mono (by decide)) pass0 rfl (pad_cons (pd_var (pv 0)) (pad_cons (pd_op opr_add o2_add (pd_b cr_len on_len z_len (pad_cons (pd_var (pv 2)) pad_nil)) pd_int) pad_nil))) (pad_cons (pd_var (pv 3)) pad_nil))))))
    (pssd_one (psd_ret (pd_var (pv 2))))))
theorem bd_law_word (d_law_take : Df P w K mg base CX0 1 (Str.ofString "_law_take") p_law_take (spOf1 K p_law_take.length s_law_take)) (z_range : mg (Str.ofString "range") = none)  (f : Addr) (cdv : Value) (A : Around) (outer : List Env) (s1 : Shared) (H : Hp) (E : XK) (hr : RoomG 1 (A.deeper (envOfC (Str.ofString "_law_word") (defScope st_law_word) s1.heap.objs.size f cdv))) :
    PSsD (cxOf CX0 P w K mg base N_law_word (Str.ofString "_law_word") (defScope st_law_word) f cdv A outer s1 H E).nox [0] (defBody st_law_word) rd_law_word := by
  have nd : N_law_word.Nodup := sc_law_word.nd
  exact (pssd_one (psd_ret (pd_m PySem.F.plainAttrs_str PySem.F.slot_str_join PySem.F.type_str_join mt_join om_join ty_str pd_str (pad_cons (pd_lc (own := [(Str.ofString "k", 2)]) rfl nd (pid_range1 rfl z_range (pad_cons (pd_var (pv 1)) pad_nil)) (blkOk_by (by walk_at "bk")) (by decide) (by decide) (fun _ _ _ _ _ => (pgd_name (i := 2) nd rfl (Or.inl rfl) (by decide))) (fun _ _ _ _ _ => ptsd_nil) (fun _ _ _ _ _ => (pd_ix ix_seq o2_ix pd_str (pd_call1 (Df.d d_law_take) n_law_take (hr.mono (by decide)) pass0 rfl (pad_cons (pd_var (pv 0)) (pad_cons pd_int pad_nil)))))) pad_nil))))
theorem bd_law_wide_words (d_law_word : Df P w K mg base CX0 2 (Str.ofString "_law_word") p_law_word (spOf1 K p_law_word.length s_law_word)) (d_law_words : Df P w K mg base CX0 1 (Str.ofString "_law_words") p_law_words (spOf0 K p_law_words.length s_law_words)) (d_law_take : Df P w K mg base CX0 1 (Str.ofString "_law_take") p_law_take (spOf1 K p_law_take.length s_law_take)) (d_law_shuffled : Df P w K mg base CX0 2 (Str.ofString "_law_shuffled") p_law_shuffled (spOf1 K p_law_shuffled.length s_law_shuffled))   (f : Addr) (cdv : Value) (A : Around) (outer : List Env) (s1 : Shared) (H : Hp) (E : XK) (hr : RoomG 2 (A.deeper (envOfC (Str.ofString "_law_wide_words") (defScope st_law_wide_words) s1.heap.objs.size f cdv))) :
    PSsD (cxOf CX0 P w K mg base N_law_wide_words (Str.ofString "_law_wide_words") (defScope st_law_wide_words) f cdv A outer s1 H E).nox [0] (defBody st_law_wide_words) rd_law_wide_words := by
  have nd : N_law_wide_words.Nodup := sc_law_wide_words.nd
  exact (pssd_cons (psd_set (i := 1) nd rfl (Or.inr rfl) (by decide) (pd_call1 (Df.d d_law_word) n_law_word (hr.mono (by decide)) pass0 rfl (pad_cons (pd_var (pv 0)) (pad_cons pd_int pad_nil))))
    (pssd_cons (psd_setLc (i := 2) (own := [(Str.ofString "word", 3)]) rfl nd rfl rfl (by decide) (sw_true rfl rfl rfl (by decide +kernel)) (pid_it (pd_call0 (Df.d d_law_words) n_law_words (hr.mono (by decide)) pass0 rfl (pad_cons pd_int pad_nil))) (blkOk_by (by walk_at "bk")) (by decide) (by decide) (fun _ _ _ _ _ => (pgd_name (i := 3) nd rfl (Or.inl rfl) (by decide))) (fun _ _ _ _ _ => ptsd_nil) (fun _ _ _ _ _ => (pd_op opr_add o2_add (pd_var (pv 3)) (pd_var (pv 1)))))
    (pssd_cons (psd_if (ptd_cmp (opr_eq hr.u64) o2_eq (pd_call1 (Df.d d_law_take) n_law_take (hr.mono (by decide)) pass0 rfl (pad_cons (pd_var (pv 0)) (pad_cons pd_int pad_nil))) pd_int (nomark _)) (pssd_one (psd_setLc (i := 2) (own := [(Str.ofString "word", 3)]) rfl nd rfl rfl (by decide) (sw_true rfl rfl rfl (by decide +kernel)) (pid_it (pd_call0 (Df.d d_law_words) n_law_words (hr.mono (by decide)) pass0 rfl (pad_cons pd_int pad_nil))) (blkOk_by (by walk_at "bk")) (by decide) (by decide) (fun _ _ _ _ _ => (pgd_name (i := 3) nd rfl (Or.inl rfl) (by decide))) (fun _ _ _ _ _ => ptsd_nil) (fun _ _ _ _ _ => (pd_op opr_add o2_add (pd_var (pv 1)) (pd_var (pv 3)))))) pssd_nil)
    (pssd_cons (psd_set (i := 2) nd rfl (Or.inl rfl) (by decide) (pd_call1 (Df.d d_law_shuffled) n_law_shuffled (hr.mono (by decide)) pass0 rfl (pad_cons (pd_var (pv 0)) (pad_cons (pd_var (pv 2)) pad_nil))))
    (pssd_cons (psd_if (ptd_cmp op_gt o2_gt (pd_call1 (Df.d d_law_take) n_law_take (hr.mono (by decide)) pass0 rfl (pad_cons (pd_var (pv 0)) (pad_cons pd_int pad_nil))) pd_int (nomark _)) (pssd_one (psd_ret (pd_slice (pd_var (pv 2)) pod_no (pod_so (pd_call1 (Df.d d_law_take) n_law_take (hr.mono (by decide)) pass0 rfl (pad_cons (pd_var (pv 0)) (pad_cons pd_int pad_nil))))))) pssd_nil)
    (pssd_one (psd_ret (pd_var (pv 2)))))))))
theorem bd_law_case (d_law_take : Df P w K mg base CX0 1 (Str.ofString "_law_take") p_law_take (spOf1 K p_law_take.length s_law_take)) (d_law_wide_words : Df P w K mg base CX0 3 (Str.ofString "_law_wide_words") p_law_wide_words (spOf1 K p_law_wide_words.length s_law_wide_words)) (d_law_bus : Df P w K mg base CX0 3 (Str.ofString "_law_bus") p_law_bus (spOf0 K p_law_bus.length s_law_bus)) (d_law_lots : Df P w K mg base CX0 3 (Str.ofString "_law_lots") p_law_lots (spOf1 K p_law_lots.length s_law_lots)) (d_law_shuffled : Df P w K mg base CX0 2 (Str.ofString "_law_shuffled") p_law_shuffled (spOf1 K p_law_shuffled.length s_law_shuffled)) (d_law_left : Df P w K mg base CX0 3 (Str.ofString "_law_left") p_law_left (spOf0 K p_law_left.length s_law_left)) (d_law_word : Df P w K mg base CX0 2 (Str.ofString "_law_word") p_law_word (spOf1 K p_law_word.length s_law_word)) (z_min : mg (Str.ofString "min") = none) (z_range : mg (Str.ofString "range") = none)  (f : Addr) (cdv : Value) (A : Around) (outer : List Env) (s1 : Shared) (H : Hp) (E : XK) (hr : RoomG 3 (A.deeper (envOfC (Str.ofString "_law_case") (defScope st_law_case) s1.heap.objs.size f cdv))) :
    PSsD (cxOf CX0 P w K mg base N_law_case (Str.ofString "_law_case") (defScope st_law_case) f cdv A outer s1 H E).nox [0] (defBody st_law_case) rd_law_case := by
  have nd : N_law_case.Nodup := sc_law_case.nd
  exact (pssd_cons (psd_set (i := 1) nd rfl (Or.inl rfl) (by decide) (pd_call1 (Df.d d_law_take) n_law_take (hr.mono (by decide)) pass0 rfl (pad_cons (pd_var (pv 0)) (pad_cons pd_int pad_nil))))
    (pssd_cons (psd_set (i := 2) nd rfl (Or.inl rfl) (by decide) (pd_op opr_add o2_add pd_int (pd_call1 (Df.d d_law_take) n_law_take (hr.mono (by decide)) pass0 rfl (pad_cons (pd_var (pv 0)) (pad_cons pd_int pad_nil)))))
    (pssd_cons (psd_set (i := 3) nd rfl (Or.inl rfl) (by decide) (pd_lst pad_nil))
    (pssd_cons (psd_if (ptd_cmp (opr_eq hr.u64) o2_eq (pd_var (pv 1)) pd_int (nomark _)) (pssd_cons (psd_set (i := 3) nd rfl (Or.inl rfl) (by decide) (pd_call1 (Df.d d_law_wide_words) n_law_wide_words (hr.mono (by decide)) pass0 rfl (pad_cons (pd_var (pv 0)) pad_nil)))
    (pssd_one (psd_set (i := 2) nd rfl (Or.inl rfl) (by decide) pd_int))) (pssd_one (psd_if (ptd_cmp op_lt o2_lt (pd_var (pv 1)) pd_int (nomark _)) (pssd_cons (psd_set (i := 2) nd rfl (Or.inl rfl) (by decide) (pd_op opr_add o2_add pd_int (pd_call1 (Df.d d_law_take) n_law_take (hr.mono (by decide)) pass0 rfl (pad_cons (pd_var (pv 0)) (pad_cons pd_int pad_nil)))))
    (pssd_cons (psd_set (i := 4) nd rfl (Or.inl rfl) (by decide) (pd_call0 (Df.d d_law_bus) n_law_bus (hr.mono (by decide)) pass0 rfl (pad_cons (pd_var (pv 2)) (pad_cons (pd_call1 (Df.d d_law_lots) n_law_lots (hr.mono (by decide)) pass0 rfl (pad_cons (pd_var (pv 0)) (pad_cons (pd_var (pv 2)) (pad_cons pd_int pad_nil)))) pad_nil))))
    (pssd_cons (psd_set (i := 5) nd rfl (Or.inl rfl) (by decide) (pd_m PySem.F.plainAttrs_str PySem.F.slot_str_join PySem.F.type_str_join mt_join om_join ty_str pd_str (pad_cons (pd_lc (own := [(Str.ofString "lot", 8)]) rfl nd (pid_it (pd_ix ix_seq o2_ix (pd_var (pv 4)) pd_int)) (blkOk_by (by walk_at "bk")) (by decide) (by decide) (fun _ _ _ _ _ => (pgd_name (i := 8) nd rfl (Or.inl rfl) (by decide))) (fun _ _ _ _ _ => ptsd_nil) (fun _ _ _ _ _ => (pd_ix ix_seq o2_ix pd_str (pd_call1 (Df.d d_law_take) n_law_take (hr.mono (by decide)) pass0 rfl (pad_cons (pd_var (pv 0)) (pad_cons pd_int pad_nil)))))) pad_nil)))
    (pssd_one (psd_set (i := 3) nd rfl (Or.inl rfl) (by decide) (pd_call1 (Df.d d_law_shuffled) n_law_shuffled (hr.mono (by decide)) pass0 rfl (pad_cons (pd_var (pv 0)) (pad_cons (pd_call0 (Df.d d_law_left) n_law_left (hr.mono (by decide)) pass0 rfl (pad_cons (pd_var (pv 4)) (pad_cons (pd_var (pv 5)) pad_nil))) pad_nil)))))))) (pssd_cons (psd_if (ptd_cmp op_lt o2_lt (pd_var (pv 1)) pd_int (nomark _)) (pssd_one (psd_set (i := 2) nd rfl (Or.inl rfl) (by decide) (pd_b (call_min2 rfl) on_min2 z_min (pad_cons (pd_var (pv 2)) (pad_cons pd_int pad_nil))))) pssd_nil)
    (pssd_one (psd_for PassesOwn.never rfl (pid_range1 rfl z_range (pad_cons (pd_call1 (Df.d d_law_take) n_law_take (hr.mono (by decide)) pass0 rfl (pad_cons (pd_var (pv 0)) (pad_cons pd_int pad_nil))) pad_nil)) (pgd_name (i := 6) nd rfl (Or.inl rfl) (by decide)) (pssd_cons (psd_set (i := 7) nd rfl (Or.inl rfl) (by decide) (pd_call1 (Df.d d_law_word) n_law_word (hr.mono (by decide)) pass0 rfl (pad_cons (pd_var (pv 0)) (pad_cons (pd_var (pv 2)) pad_nil))))
    (pssd_one (psd_if (ptd_cmp (opr_notIn hr.u65) o2_notIn (pd_var (pv 7)) (pd_var (pv 3)) (by rfl)) (pssd_one (psd_expr (pd_mt PySem.F.slot_list_append PySem.F.type_list_append mt_append ow_app (pv 3) (pad_cons (pd_var (pv 7)) pad_nil)))) pssd_nil)))))))))
    (pssd_one (psd_ret (pd_tup (pad_cons (pd_var (pv 2)) (pad_cons (pd_var (pv 3)) (pad_cons (pd_lst (pad_cons pd_int (pad_cons (pd_op op_sub o2_sub (pd_var (pv 2)) pd_int) (pad_cons (pd_call1 (Df.d d_law_take) n_law_take (hr.mono (by decide)) pass0 rfl (pad_cons (pd_var (pv 0)) (pad_cons (pd_var (pv 2)) pad_nil))) pad_nil)))) (pad_cons (pd_call1 (Df.d d_law_word) n_law_word (hr.mono (by decide)) pass0 rfl (pad_cons (pd_var (pv 0)) (pad_cons (pd_var (pv 2)) pad_nil))) pad_nil)))))))))))
theorem bd_law_pairs    (f : Addr) (cdv : Value) (A : Around) (outer : List Env) (s1 : Shared) (H : Hp) (E : XK) (hr : RoomG 0 (A.deeper (envOfC (Str.ofString "_law_pairs") (defScope st_law_pairs) s1.heap.objs.size f cdv))) :
    PSsD (cxOf CX0 P w K mg base N_law_pairs (Str.ofString "_law_pairs") (defScope st_law_pairs) f cdv A outer s1 H E).nox [] (defBody st_law_pairs) rd_law_pairs := by
  have nd : N_law_pairs.Nodup := sc_law_pairs.nd
  exact (pssd_cons (psd_set (i := 2) nd rfl (Or.inl rfl) (by decide) pd_int)
    (pssd_cons (psd_for PassesOwn.never rfl (pid_it (pd_var (pv 0))) (pgd_name (i := 3) nd rfl (Or.inl rfl) (by decide)) (pssd_one (psd_if (PWD.pt (pwd_and (ptd_cmp (opr_eq hr.u64) o2_eq (pd_ix ix_seq o2_ix (pd_var (pv 3)) (pd_var (pv 1))) pd_str (nomark _)) (pwd_and1 (ptd_cmp (opr_in hr.u65) o2_in (pd_op opr_add o2_add (pd_op opr_add o2_add (pd_slice (pd_var (pv 3)) pod_no (pod_so (pd_var (pv 1)))) pd_str) (pd_slice (pd_var (pv 3)) (pod_so (pd_op opr_add o2_add (pd_var (pv 1)) pd_int)) pod_no)) (pd_var (pv 0)) (by rfl))))) (pssd_one (psd_set (i := 2) nd rfl (Or.inl rfl) (by decide) (pd_op opr_add o2_add (pd_var (pv 2)) pd_int))) pssd_nil)))
    (pssd_one (psd_ret (pd_var (pv 2))))))
theorem bd_law_right (dstuck_groups : Df P w K mg base CX0 2 (Str.ofString "stuck_groups") pstuck_groups (spOf0 K pstuck_groups.length sstuck_groups)) (d_law_same : Df P w K mg base CX0 1 (Str.ofString "_law_same") p_law_same (spOf0 K p_law_same.length s_law_same)) (d_law_groups : Df P w K mg base CX0 1 (Str.ofString "_law_groups") p_law_groups (spOf0 K p_law_groups.length s_law_groups)) (d_law_pairs : Df P w K mg base CX0 1 (Str.ofString "_law_pairs") p_law_pairs (spOf0 K p_law_pairs.length s_law_pairs)) (dstuck_word : Df P w K mg base CX0 1 (Str.ofString "stuck_word") pstuck_word (spOf0 K pstuck_word.length sstuck_word)) (z_len : mg (Str.ofString "len") = none) (z_tuple : mg (Str.ofString "tuple") = none)  (f : Addr) (cdv : Value) (A : Around) (outer : List Env) (s1 : Shared) (H : Hp) (E : XK) (hr : RoomG 2 (A.deeper (envOfC (Str.ofString "_law_right") (defScope st_law_right) s1.heap.objs.size f cdv))) :
    PSsD (cxOf CX0 P w K mg base N_law_right (Str.ofString "_law_right") (defScope st_law_right) f cdv A outer s1 H E).nox [] (defBody st_law_right) rd_law_right := by
  have nd : N_law_right.Nodup := sc_law_right.nd
  exact (pssd_cons (psd_asg (pd_var (pv 0)) (pgd_tup rfl (pgds_cons (pgd_name (i := 1) nd rfl (Or.inl rfl) (by decide)) (pgds_cons (pgd_name (i := 2) nd rfl (Or.inl rfl) (by decide)) (pgds_cons (pgd_name (i := 3) nd rfl (Or.inl rfl) (by decide)) (pgds_cons (pgd_name (i := 4) nd rfl (Or.inl rfl) (by decide)) pgds_nil))))))
    (pssd_cons (psd_for PassesOwn.never rfl (pid_it (pd_var (pv 3))) (pgd_name (i := 5) nd rfl (Or.inl rfl) (by decide)) (pssd_one (psd_for PassesOwn.never rfl (pid_it pd_str) (pgd_name (i := 6) nd rfl (Or.inl rfl) (by decide)) (pssd_cons (psd_set (i := 7) nd rfl (Or.inl rfl) (by decide) (pd_call0 (Df.d dstuck_groups) nstuck_groups (hr.mono (by decide)) pass0 rfl (pad_cons (pd_ty call_tuple_of on_toTup z_tuple (pad_cons (pd_var (pv 2)) pad_nil)) (pad_cons (pd_var (pv 5)) (pad_cons (pd_var (pv 6)) pad_nil)))))
    (pssd_cons (psd_if (ptd_not (ptd_val (pd_call0 (Df.d d_law_same) n_law_same (hr.mono (by decide)) pass0 rfl (pad_cons (pd_var (pv 7)) (pad_cons (pd_call0 (Df.d d_law_groups) n_law_groups (hr.mono (by decide)) pass0 rfl (pad_cons (pd_var (pv 2)) (pad_cons (pd_var (pv 5)) (pad_cons (pd_var (pv 6)) pad_nil)))) pad_nil))))) (pssd_one (psd_ret pd_bl)) pssd_nil)
    (pssd_cons (psd_if (ptd_cmp (opr_ne hr.u64) o2_ne (pd_b cr_len on_len z_len (pad_cons (pd_var (pv 7)) pad_nil)) (pd_op op_sub o2_sub (pd_b cr_len on_len z_len (pad_cons (pd_var (pv 2)) pad_nil)) (pd_call0 (Df.d d_law_pairs) n_law_pairs (hr.mono (by decide)) pass0 rfl (pad_cons (pd_var (pv 2)) (pad_cons (pd_var (pv 5)) pad_nil)))) (nomark _)) (pssd_one (psd_ret pd_bl)) pssd_nil)
    (pssd_one (psd_for PassesOwn.never rfl (pid_it (pd_op opr_add o2_add (pd_slice (pd_var (pv 2)) pod_no (pod_so pd_int)) (pd_lst (pad_cons (pd_var (pv 4)) pad_nil)))) (pgd_name (i := 8) nd rfl (Or.inl rfl) (by decide)) (pssd_one (psd_if (ptd_not (ptd_val (pd_call0 (Df.d d_law_same) n_law_same (hr.mono (by decide)) pass0 rfl (pad_cons (pd_call0 (Df.d dstuck_word) nstuck_word (hr.mono (by decide)) pass0 rfl (pad_cons (pd_var (pv 8)) (pad_cons (pd_var (pv 5)) (pad_cons (pd_var (pv 6)) pad_nil)))) (pad_cons (pd_op opr_add o2_add (pd_op opr_add o2_add (pd_slice (pd_var (pv 8)) pod_no (pod_so (pd_var (pv 5)))) (pd_var (pv 6))) (pd_slice (pd_var (pv 8)) (pod_so (pd_op opr_add o2_add (pd_var (pv 5)) pd_int)) pod_no)) pad_nil))))) (pssd_one (psd_ret pd_bl)) pssd_nil))))))))))
    (pssd_one (psd_ret pd_bl))))
theorem bdlaw (d_law_stream : Df P w K mg base CX0 1 (Str.ofString "_law_stream") p_law_stream (spOf0 K p_law_stream.length s_law_stream)) (d_law_case : Df P w K mg base CX0 4 (Str.ofString "_law_case") p_law_case (spOf1 K p_law_case.length s_law_case)) (d_law_right : Df P w K mg base CX0 3 (Str.ofString "_law_right") p_law_right (spOf0 K p_law_right.length s_law_right))   (f : Addr) (cdv : Value) (A : Around) (outer : List Env) (s1 : Shared) (H : Hp) (E : XK) (hr : RoomG 4 (A.deeper (envOfC (Str.ofString "law") (defScope stlaw) s1.heap.objs.size f cdv))) :
    PSsD (cxOf CX0 P w K mg base Nlaw (Str.ofString "law") (defScope stlaw) f cdv A outer s1 H E).nox [] (defBody stlaw) rdlaw := by
  have nd : Nlaw.Nodup := sclaw.nd
  exact (pssd_cons (psd_set (i := 1) nd rfl (Or.inl rfl) (by decide) (pd_call0 (Df.d d_law_stream) n_law_stream (hr.mono (by decide)) pass0 rfl (pad_cons (pd_var (pv 0)) pad_nil)))
    (pssd_cons (psd_set (i := 2) nd rfl (Or.inl rfl) (by decide) (pd_call1 (Df.d d_law_case) n_law_case (hr.mono (by decide)) pass0 rfl (pad_cons (pd_var (pv 1)) pad_nil)))
    (pssd_cons (psd_set (i := 3) nd rfl (Or.inl rfl) (by decide) (pd_call1 (Df.d d_law_case) n_law_case (hr.mono (by decide)) pass0 rfl (pad_cons (pd_var (pv 1)) pad_nil)))
    (pssd_one (psd_ret (pd_and (pd_call0 (Df.d d_law_right) n_law_right (hr.mono (by decide)) pass0 rfl (pad_cons (pd_var (pv 2)) pad_nil)) (pd_and (pd_call0 (Df.d d_law_right) n_law_right (hr.mono (by decide)) pass0 rfl (pad_cons (pd_var (pv 3)) pad_nil)) (pd_one (pd_call0 (Df.d d_law_right) n_law_right (hr.mono (by decide)) pass0 rfl (pad_cons (pd_var (pv 2)) pad_nil))))))))))
end
end HD


set_option Elab.async false
set_option linter.all false
set_option maxRecDepth 100000
set_option maxHeartbeats 4000000
namespace HD
open PySem PySem.Spec PyProof.Rows L2
local macro_rules | `(tactic| walk_at "w") => `(tactic| conv => whnf)
local macro_rules | `(tactic| walk_at "ar") => `(tactic| (try dsimp only) <;> first | omega | decide | assumption)
local macro_rules | `(tactic| walk_at "bk") => `(tactic| first | rfl | (refine Eq.trans (b := true) ?_ rfl; rfl))
theorem ok_law_take : ∀ xs ds Q, s_law_take xs ds Q → rd_law_take (DE1 Q) (start1 N_law_take.length xs ds) := by
  rintro xs ds Q ⟨m, rfl, hm, ⟨h0, hs⟩, k⟩
  refine ⟨fun h => ?_, fun h => ?_⟩
  · obtain ⟨d, hd⟩ : ∃ d, xs[xs.length - 1]? = some d := by
      have : xs.length ≠ 0 := fun h => h0 (List.eq_nil_of_length_eq_zero h)
      exact ⟨_, List.getElem?_eq_getElem (by omega)⟩
    obtain ⟨i, rfl⟩ := hs d (List.mem_of_getElem? hd)
    have hne : xs.dropLast ≠ [] := fun z => by
      have h1 : (1 : Int) < xs.length := of_decide_eq_true h
      have := congrArg List.length z
      rw [List.length_dropLast] at this
      simp at this
      omega
    refine ⟨bnd_of hd ?_⟩
    refine ⟨hm, k _ _ (Int.emod_nonneg _ (by omega)) (Int.emod_lt_of_pos _ hm) ⟨hne, fun d hd => hs d ((List.dropLast_sublist xs).subset hd)⟩⟩
  · obtain ⟨d, r, rfl⟩ : ∃ d r, xs = d :: r := by
      cases xs with
      | nil => exact (h0 rfl).elim
      | cons d r => exact ⟨d, r, rfl⟩
    obtain ⟨i, rfl⟩ := hs _ List.mem_cons_self
    refine ix_list (by decide) rfl ?_
    refine ⟨.inr (by decide), add_i ⟨by walk_at "ar", ?_⟩⟩
    walk_at "w"
    refine bnd_of (show ixN (PyData.int i :: r).length 0 = some 0 from ?_) ?_
    · unfold ixN
      rw [if_pos (by decide), if_pos (by simp)]
      rfl
    refine ix_list (by decide) rfl ⟨⟨by decide, by decide⟩, hm, ?_⟩
    refine k _ _ (Int.emod_nonneg _ (by omega)) (Int.emod_lt_of_pos _ hm) ⟨by simp, fun d hd => ?_⟩
    rcases List.mem_cons.mp hd with rfl | hd
    · exact ⟨_, rfl⟩
    · exact hs _ (List.mem_cons_of_mem _ hd)
theorem okstuck_word : ∀ ds Q, sstuck_word ds Q → rdstuck_word (DE0 Q) (start0 Nstuck_word.length ds) := by
  rintro ds Q ⟨w, i, c, rfl, hl, hi, k⟩
  refine sl_to (a := w) (i := (i : Int)) (by omega) (by omega) ?_
  refine add_sd (b := [c]) (by simp; omega) ?_
  refine add_i ?_
  refine sl_from (a := w) (i := (i : Int) + 1) (by omega) (by omega) ?_
  refine add_sd (by simp; omega) ?_
  exact k
theorem set_un {r : List Sl} {i : Nat} {x : Sl} (h : r[i]? = some .un) : (r.set i x).set i .un = r := by
  rw [List.set_set]
  apply List.ext_getElem?
  intro j
  by_cases e : i = j
  · subst e
    rw [h]
    have := (List.getElem?_eq_some_iff.mp h).1
    rw [List.getElem?_set_self this]
  · rw [List.getElem?_set_ne e]
/-- ['01'[_law_take(stream, 2)] for x in xs] -/
theorem lc_bits {r : List Sl} {i : Nat} {xs ys : List D} {Q : List D → List Sl → Prop} (hr : r[i]? = some .un) (hy : Strm ys)
    (k : ∀ (zs : List Wd) ys', zs.length = xs.length → (∀ z ∈ zs, Bt z ∧ z.length = 1) → Strm ys' → Q (zs.map sd) (.ol ys' :: r)) :
    HC (dgN (i + 1)) dYes (dOp ixD (dC (.str (Str.ofString "01"))) (dCall1 s_law_take (dCons (dVar 0) (dCons (dC (.int 2)) dNil)))) [i + 1] Q xs [] (.ol ys :: r) := by
  refine lc_inv (fun j acc e => ∃ (zs : List Wd) (ys' : List D), acc = zs.map sd ∧ zs.length = j ∧ (∀ z ∈ zs, Bt z ∧ z.length = 1) ∧ Strm ys' ∧ e = .ol ys' :: r) ⟨[], ys, rfl, rfl, fun z hz => (by cases hz), hy, rfl⟩ ?_ ?_
  · rintro j x _ _ N hj ⟨zs, ys', rfl, hz, hb, hs, rfl⟩ next
    refine br_t ⟨2, rfl, by decide, hs, fun c ys2 h0 h1 hs2 => ?_⟩
    obtain ⟨d, hd, hd2⟩ : ∃ d, [48, 49][c.toNat]? = some d ∧ (d = 48 ∨ d = 49) := by
      rcases (show c = 0 ∨ c = 1 by omega) with rfl | rfl
      · exact ⟨48, rfl, .inl rfl⟩
      · exact ⟨49, rfl, .inr rfl⟩
    refine ix_sd (w := [48, 49]) (by decide) h0 hd ?_
    refine next _ _ ⟨zs ++ [[d]], ys2, by simp [R.fz], by simp [hz], fun z hm => ?_, hs2, ?_⟩
    · rcases List.mem_append.mp hm with hm | hm
      · exact hb z hm
      · rw [List.mem_singleton.mp hm]
        exact ⟨Bt.cons hd2 fun c hc => (by cases hc), rfl⟩
    · show Sl.ol ys2 :: ((r.set i _).set i .un) = _
      rw [set_un hr]
  · rintro _ _ ⟨zs, ys', rfl, hz, hb, hs, rfl⟩
    exact k zs ys' hz hb hs
theorem join_bits {zs : List Wd} {P : R → Prop} {n : Nat} (hn : zs.length = n) (hl : n ≤ 100000) (hb : ∀ z ∈ zs, Bt z ∧ z.length = 1) (h : ∀ w, Bt w → w.length = n → P (.val (sd w))) : HM joinD (.str (Str.ofString "")) [.list (zs.map sd)] P := by
  have e := flat_len1 fun z hz => (hb z hz).2
  refine join_sd (by omega) (h _ (Bt.flat fun z hz => (hb z hz).1) (by omega))
theorem ok_law_word : ∀ xs ds Q, s_law_word xs ds Q → rd_law_word (DE1 Q) (start1 N_law_word.length xs ds) := by
  rintro xs ds Q ⟨n, rfl, hn, hs, k⟩
  refine ⟨rfl, by omega, by omega, by simp [line24]; omega, ⟨trivial, trivial⟩, ?_⟩
  refine lc_bits (i := 1) rfl hs fun zs ys hz hb hs => ?_
  exact join_bits hz (by simp; omega) hb fun w h1 h2 => k _ _ h1 (by simpa using h2) hs

end HD


set_option Elab.async false
set_option linter.all false
set_option maxRecDepth 100000
set_option maxHeartbeats 4000000
namespace HD
open PySem PySem.Spec PyProof.Rows L2
local macro_rules | `(tactic| walk_at "w") => `(tactic| conv => whnf)
local macro_rules | `(tactic| walk_at "ar") => `(tactic| (try dsimp only) <;> first | omega | decide | assumption)
local macro_rules | `(tactic| walk_at "bk") => `(tactic| first | rfl | (refine Eq.trans (b := true) ?_ rfl; rfl))
theorem okD_can {d : D} (h : okD d) : d.canLay0 = true := by
  unfold okD SeqAt.shaped at h
  rw [Bool.and_eq_true] at h
  exact h.1
theorem eq_same {d : D} {P : R → Prop} (h : okD d) (k : P (.val (.bool true))) : H2 eqD d d P := by
  refine ⟨?_⟩
  have e := SeqAt.eqv_refl d (okD_can h)
  unfold eqD
  split
  · rw [decide_eq_true rfl]; exact k
  · rw [decide_eq_true rfl]; exact k
  · rw [decide_eq_true rfl]; exact k
  · rw [e]
    exact ⟨h, h, k⟩
theorem eq_str {z : Str} {P : R → Prop} (k : P (.val (.bool true))) : H2 eqD (.str z) (.str z) P := by
  refine ⟨?_⟩
  unfold eqD
  show P (.val (.bool (decide (z = z))))
  rw [decide_eq_true rfl]
  exact k
theorem ok_law_same : ∀ ds Q, s_law_same ds Q → rd_law_same (DE0 Q) (start0 N_law_same.length ds) := by
  rintro ds Q ⟨d, rfl, h1, h2, k⟩
  refine ⟨h1, h1, eq_str ?_⟩
  exact br_t (eq_same h2 k)
theorem ok_law_opposite : ∀ ds Q, s_law_opposite ds Q → rd_law_opposite (DE0 Q) (start0 N_law_opposite.length ds) := by
  rintro ds Q ⟨z, rfl, hb, hl, k⟩
  refine ⟨rfl, fun _ => ?_⟩
  refine ⟨by rw [line24]; simp; omega, ⟨trivial, trivial⟩, ?_⟩
  refine lc_inv (fun j acc e => ∃ zs : List Wd, acc = zs.map sd ∧ zs.length = j ∧ (∀ z ∈ zs, Bt z ∧ z.length = 1) ∧ e = [.sh (sd z), .un]) ⟨[], rfl, rfl, fun z hz => (by cases hz), rfl⟩ ?_ ?_
  · rintro j x _ _ N hj ⟨zs, rfl, hz, hs, rfl⟩ next
    have hj : (z.map fun c => sd [c])[j]? = some x := hj
    rw [List.getElem?_map, Option.map_eq_some_iff] at hj
    obtain ⟨c, hc, rfl⟩ := hj
    rcases hb.get hc with rfl | rfl
    · refine br_t ⟨by decide, bnd_of (x := 0) (by decide +kernel) ?_⟩
      refine ix_sd (w := [49, 48]) (by decide) (by decide) rfl ?_
      refine next _ _ ⟨zs ++ [[49]], by simp, by simp [hz], fun z hm => ?_, rfl⟩
      rcases List.mem_append.mp hm with hm | hm
      · exact hs z hm
      · rw [List.mem_singleton.mp hm]
        exact ⟨Bt.cons (.inr rfl) fun c hc => (by cases hc), rfl⟩
    · refine br_t ⟨by decide, bnd_of (x := 1) (by decide +kernel) ?_⟩
      refine ix_sd (w := [49, 48]) (by decide) (by decide) rfl ?_
      refine next _ _ ⟨zs ++ [[48]], by simp, by simp [hz], fun z hm => ?_, rfl⟩
      rcases List.mem_append.mp hm with hm | hm
      · exact hs z hm
      · rw [List.mem_singleton.mp hm]
        exact ⟨Bt.cons (.inl rfl) fun c hc => (by cases hc), rfl⟩
  · rintro _ _ ⟨zs, rfl, hz, hs, rfl⟩
    exact join_bits hz (by simp; omega) hs fun w h1 h2 => k _ h1 (by simpa using h2)
theorem lc_part {w : Wd} {is : List Int} {r : List Sl} {Q : List D → List Sl → Prop} {v : Nat} {ir : TED} (hl : w.length ≤ 1000) (hi : ∀ i ∈ is, 0 ≤ i ∧ i < w.length)
    (hr : ∀ x, wipeE (r.set v x) [v] = r)
    (hir : ∀ (i : Int) (c : Nat) (P : R → List Sl → Prop), 0 ≤ i → w[i.toNat]? = some c → P (.val (sd [c])) (r.set v (.sh (.int i))) → ir (r.set v (.sh (.int i))) P)
    (k : ∀ zs : List Wd, zs.length = is.length → (∀ z ∈ zs, z.length = 1 ∧ ∀ c ∈ z, c ∈ w) → Q (zs.map sd) r) :
    HC (dgN v) dYes ir [v] Q (is.map PyData.int) [] r := by
  refine lc_inv (fun j acc e => ∃ zs : List Wd, acc = zs.map sd ∧ zs.length = j ∧ (∀ z ∈ zs, z.length = 1 ∧ ∀ c ∈ z, c ∈ w) ∧ e = r) ⟨[], rfl, rfl, fun z hz => (by cases hz), rfl⟩ ?_ ?_
  · rintro j x _ _ N hj ⟨zs, rfl, hz, hs, rfl⟩ next
    rw [List.getElem?_map, Option.map_eq_some_iff] at hj
    obtain ⟨i, hm, rfl⟩ := hj
    obtain ⟨h0, h1⟩ := hi i (List.mem_of_getElem? hm)
    obtain ⟨c, hc⟩ := get_of (l := w) (i := i.toNat) (by omega)
    refine br_t (hir i c _ h0 hc ?_)
    have e2 := hr (.sh (.int i))
    show N _ (wipeE (List.set _ v (.sh (.int i))) [v])
    rw [e2]
    refine next _ _ ⟨zs ++ [[c]], by simp, by simp [hz], fun z hm => ?_, rfl⟩
    rcases List.mem_append.mp hm with hm | hm
    · exact hs z hm
    · rw [List.mem_singleton.mp hm]
      exact ⟨rfl, fun d hd => by rw [List.mem_singleton.mp hd]; exact List.mem_of_getElem? hc⟩
  · rintro _ _ ⟨zs, rfl, hz, hs, rfl⟩
    exact k zs (by simpa using hz) hs
theorem ok_law_part : ∀ ds Q, s_law_part ds Q → rd_law_part (DE0 Q) (start0 N_law_part.length ds) := by
  rintro ds Q ⟨w, is, rfl, hl, hm, hi, k⟩
  refine ⟨rfl, fun _ => ?_⟩
  refine ⟨by rw [line24]; simp; omega, ⟨trivial, trivial⟩, ?_⟩
  refine lc_part (w := w) (v := 2) hl hi (fun _ => rfl) (fun i c P h0 hc h => ix_sd (by omega) h0 hc h) fun zs hz hs => ?_
  exact join_sd (by have := flat_len1 fun z h => (hs z h).1; omega) (k _)
theorem ok_law_lacks : ∀ ds Q, s_law_lacks ds Q → rd_law_lacks (DE0 Q) (start0 N_law_lacks.length ds) := by
  rintro ds Q ⟨d, n, s, w, rfl, ⟨is, z, rfl, h0, hm, hi, hz, hb⟩, hw, hn, k⟩
  refine ix_tup (by decide) rfl ?_
  have fin : ∀ y : Wd, (∀ b, Q (.val (.bool b))) → (dRet (dOp neD (dCall0 s_law_part (dCons (dVar 2) (dCons (dOp ixD (dVar 0) (dC (.int 0))) dNil))) (dVar 3))) (DE0 Q) [.sh (.tuple [.tuple (is.map PyData.int), sd z]), .sh (sd s), .sh (sd w), .sh (sd y)] := fun y k => by
    refine ix_tup (by decide) rfl ?_
    exact ⟨w, is, rfl, by omega, by omega, fun i h => by rw [hw]; exact hi i h, fun y2 => ne_sd (k _)⟩
  refine eq_sd (b := [49]) ⟨fun h => ?_, fun h => ?_⟩
  · exact ⟨z, rfl, hb, by omega, fun y _ _ => fin y k⟩
  · exact fin z k
theorem ok_law_shuffled : ∀ xs ds Q, s_law_shuffled xs ds Q → rd_law_shuffled (DE1 Q) (start1 N_law_shuffled.length xs ds) := by
  rintro xs ds Q ⟨ts, rfl, hl, hs, k⟩
  refine ⟨Nat.zero_le _, fun _ => ?_⟩
  refine loop_inv (fun i e => ∃ us ys v, us.Perm (ts.take i) ∧ Strm ys ∧ e = [.ol ys, .sh (.list ts), .ol us, v]) ⟨[], xs, _, .refl _, hs, rfl⟩ ?_ ?_
  · rintro i x _ N hx ⟨us, ys, v, hp, hs, rfl⟩ next
    have hlen := hp.length_eq
    rw [List.length_take] at hlen
    have hi := (List.getElem?_eq_some_iff.mp hx).1
    refine ⟨add_i ⟨_, rfl, by omega, hs, fun r ys' h0 h1 hs' => ?_⟩⟩
    refine ⟨?_, h0, by omega, ?_⟩
    · rw [line24]; omega
    · refine next _ ⟨_, ys', _, ?_, hs', rfl⟩
      have e : ts.take (i + 1) = ts.take i ++ [x] := by rw [List.take_add_one, hx]; rfl
      rw [e]
      refine List.Perm.trans ?_ (List.Perm.append_right _ hp)
      have e2 : us ++ [x] = us.take r.toNat ++ us.drop r.toNat ++ [x] := by rw [List.take_append_drop]
      rw [e2, List.append_assoc, List.append_assoc]
      exact List.Perm.append_left _ List.perm_append_comm
  · rintro _ ⟨us, ys, v, hp, hs, rfl⟩
    rw [List.take_length] at hp
    exact ⟨by decide, k _ _ hp hs⟩

end HD


set_option Elab.async false
set_option linter.all false
set_option maxRecDepth 100000
set_option maxHeartbeats 4000000
namespace HD
open PySem PySem.Spec PyProof.Rows L2
local macro_rules | `(tactic| walk_at "w") => `(tactic| conv => whnf)
local macro_rules | `(tactic| walk_at "ar") => `(tactic| (try dsimp only) <;> first | omega | decide | assumption)
local macro_rules | `(tactic| walk_at "bk") => `(tactic| first | rfl | (refine Eq.trans (b := true) ?_ rfl; rfl))
/-! all words of so many signs -/
def both (w : Wd) : List Wd := [w ++ [48], w ++ [49]]
theorem both_len : ∀ ws : List Wd, (ws.flatMap both).length = 2 * ws.length
  | [] => rfl
  | w :: ws => by
    rw [List.flatMap_cons, List.length_append, both_len ws, List.length_cons]
    show 2 + _ = _
    omega
theorem both_mem {ws : List Wd} {w : Wd} : w ∈ ws.flatMap both ↔ ∃ u ∈ ws, w = u ++ [48] ∨ w = u ++ [49] := by
  rw [List.mem_flatMap]
  constructor
  · rintro ⟨u, h1, h2⟩
    exact ⟨u, h1, by simpa [both] using h2⟩
  · rintro ⟨u, h1, h2⟩
    exact ⟨u, h1, by simpa [both] using h2⟩
theorem app1_inj {u v : Wd} {a b : Nat} (h : u ++ [a] = v ++ [b]) : u = v ∧ a = b := by
  have := List.append_inj' h rfl
  exact ⟨this.1, by simpa using this.2⟩
theorem both_nodup : ∀ {ws : List Wd}, ws.Nodup → (ws.flatMap both).Nodup
  | [], _ => List.nodup_nil
  | w :: ws, h => by
    obtain ⟨h1, h2⟩ := List.nodup_cons.mp h
    rw [List.flatMap_cons]
    refine List.nodup_append.mpr ⟨?_, both_nodup h2, ?_⟩
    · refine List.nodup_cons.mpr ⟨fun m => ?_, List.nodup_cons.mpr ⟨fun m => (by cases m), List.nodup_nil⟩⟩
      have := (app1_inj (List.mem_singleton.mp m)).2
      cases this
    · intro a ha b hb e
      subst e
      obtain ⟨u, hu, e⟩ := both_mem.mp hb
      have : w = u := by
        simp [both] at ha
        rcases ha with rfl | rfl <;> rcases e with e | e <;> exact (app1_inj e).1
      exact h1 (this ▸ hu)
theorem WdsOf.both {n : Nat} {ws : List Wd} (h : WdsOf n ws) : WdsOf (n + 1) (ws.flatMap both) := by
  refine ⟨both_nodup h.1, fun w hw => ?_⟩
  obtain ⟨u, hu, e⟩ := both_mem.mp hw
  obtain ⟨h1, h2⟩ := h.2 u hu
  rcases e with rfl | rfl
  · exact ⟨h1.app (Bt.cons (.inl rfl) fun c hc => (by cases hc)), by simp [h2]⟩
  · exact ⟨h1.app (Bt.cons (.inr rfl) fun c hc => (by cases hc)), by simp [h2]⟩
theorem pow6 {n : Nat} (h : n ≤ 6) : 2 ^ n ≤ 64 := Nat.pow_le_pow_right (by decide) h
theorem ok_law_words : ∀ ds Q, s_law_words ds Q → rd_law_words (DE0 Q) (start0 N_law_words.length ds) := by
  rintro ds Q ⟨n, rfl, hn, k⟩
  refine ⟨(show (1 : Nat) ≤ 1000 by decide), by omega, by omega, ?_⟩
  refine loop_inv (fun i e => ∃ (ws : List Wd) (s a b c : Sl), i ≤ n ∧ WdsOf i ws ∧ ws.length = 2 ^ i ∧ (s = .ol (ws.map sd) ∨ s = .sh (.list (ws.map sd))) ∧ e = [.sh (.int n), s, a, b, c]) ⟨[[]], _, _, _, _, Nat.zero_le _, ⟨by simp, fun w hw => ?_⟩, rfl, .inl rfl, rfl⟩ ?_ ?_
  · rw [List.mem_singleton.mp hw]
    exact ⟨fun c hc => (by cases hc), rfl⟩
  · rintro i x _ N hx ⟨ws, s, a, b, c, hin, hw, hl, hs, rfl⟩ next
    have hi : i < n := by simpa using (List.getElem?_eq_some_iff.mp hx).1
    rw [rng_get (by simpa using hi)] at hx
    cases hx
    have h64 := pow6 hn
    have h65 : 2 ^ i ≤ 2 ^ n := Nat.pow_le_pow_right (by decide) hin
    refine ⟨Nat.zero_le _, ?_⟩
    have key : ∀ (e : List Sl) (De : DE), e = [.sh (.int n), .sh (.list (ws.map sd)), .sh (.int (0 + (i : Int))), .ol [], c] → (∀ (L : List Wd) (c : Sl), L = ws.flatMap HD.both → De.nx [.sh (.int n), .sh (.list (ws.map sd)), .sh (.int (0 + (i : Int))), .ol (L.map sd), c]) →
        HF (dgN 4) (dSeq (dDrop (dMt appD 3 (dCons (dOp addD (dVar 4) (dC (.str (Str.ofString "0")))) dNil))) (dDrop (dMt appD 3 (dCons (dOp addD (dVar 4) (dC (.str (Str.ofString "1")))) dNil)))) De (ws.map sd) e := by
      rintro _ De rfl h
      refine loop_inv (fun j e => ∃ c, e = [.sh (.int n), .sh (.list (ws.map sd)), .sh (.int (0 + (i : Int))), .ol (((ws.take j).flatMap HD.both).map sd), c]) ⟨c, rfl⟩ ?_ ?_
      · rintro j x _ N hx ⟨c, rfl⟩ next
        rw [List.getElem?_map, Option.map_eq_some_iff] at hx
        obtain ⟨u, hu, rfl⟩ := hx
        have hj := (List.getElem?_eq_some_iff.mp hu).1
        have hlu := (hw.2 u (List.mem_of_getElem? hu)).2
        have hbl := both_len (ws.take j)
        rw [List.length_take] at hbl
        refine add_sd (b := [48]) (by simp <;> omega) ⟨?_, ?_⟩
        · rw [line24, List.length_map, hbl]; omega
        refine add_sd (b := [49]) (by simp <;> omega) ⟨?_, ?_⟩
        · rw [line24]; simp [hbl]; omega
        refine next _ ⟨.sh (sd u), ?_⟩
        have e : ws.take (j + 1) = ws.take j ++ [u] := by rw [List.take_add_one, hu]; rfl
        rw [e, List.flatMap_append]
        simp [HD.both]
      · rintro _ ⟨c, rfl⟩
        refine h _ c ?_
        rw [List.length_map, List.take_length]
    rcases hs with rfl | rfl
    · intro _
      refine key _ _ rfl ?_
      rintro L c rfl
      exact next _ ⟨_, _, _, _, _, hi, hw.both, by rw [both_len, hl, Nat.pow_succ, Nat.mul_comm], .inr rfl, rfl⟩
    · intro _
      refine key _ _ rfl ?_
      rintro L c rfl
      exact next _ ⟨_, _, _, _, _, hi, hw.both, by rw [both_len, hl, Nat.pow_succ, Nat.mul_comm], .inr rfl, rfl⟩
  · rintro _ ⟨ws, s, a, b, c, hin, hw, hl, hs, rfl⟩
    rw [rng_length, Int.toNat_natCast] at hw hl
    rcases hs with rfl | rfl
    · exact ⟨by decide, k ws _ hw hl (.inl rfl)⟩
    · exact k ws _ hw hl (.inr rfl)
theorem ok_law_left : ∀ ds Q, s_law_left ds Q → rd_law_left (DE0 Q) (start0 N_law_left.length ds) := by
  rintro ds Q ⟨n, l, ls, c, rfl, hls, hl, hc, hn, k⟩
  refine ⟨Nat.zero_le _, ix_tup (by decide) rfl ⟨n, rfl, hn, fun ws r hw hwl hr => ?_⟩⟩
  have key : ∀ (De : DE) (e : List Sl), e = [.sh (.tuple [.int n, .tuple ls]), .sh (sd c), .ol [], .un, .un, .un] → (∀ (us : List Wd) (a b p q s : Sl), us.Sublist ws → De.nx [a, b, .ol (us.map sd), p, q, s]) → HF (dgN 3) (dSeq (dAsg 4 (dC (.bool true)))
  (dSeq (dFor (dgN 5) (dRg1 (dCons (dB lenD (dCons (dOp ixD (dVar 0) (dC (.int 1))) dNil)) dNil)) (dIfS (dNot (dT (dCall0 s_law_lacks (dCons (dOp ixD (dOp ixD (dVar 0) (dC (.int 1))) (dVar 5)) (dCons (dOp ixD (dVar 1) (dVar 5)) (dCons (dVar 3) dNil)))))) (dAsg 4 (dC (.bool false))) dNext))
  (dIfS (dT (dVar 4)) (dDrop (dMt appD 2 (dCons (dVar 3) dNil))) dNext))) De (ws.map sd) e := by
    rintro De _ rfl h
    refine loop_inv (fun i e => ∃ (us : List Wd) (p q s : Sl), us.Sublist (ws.take i) ∧ e = [.sh (.tuple [.int n, .tuple ls]), .sh (sd c), .ol (us.map sd), p, q, s]) ⟨[], _, _, _, List.Sublist.refl _, rfl⟩ ?_ ?_
    · rintro i x _ N hx ⟨us, p, q, s, hs, rfl⟩ next
      rw [List.getElem?_map, Option.map_eq_some_iff] at hx
      obtain ⟨w, hw2, rfl⟩ := hx
      have hw3 := hw.2 w (List.mem_of_getElem? hw2)
      have e1 : ws.take (i + 1) = ws.take i ++ [w] := by rw [List.take_add_one, hw2]; rfl
      have hul := hs.length_le
      rw [List.length_take] at hul
      have h64 := pow6 hn
      refine ix_tup (by decide) rfl ⟨by simp <;> omega, by simp <;> omega, ?_⟩
      refine loop_inv (fun i e => ∃ (b : Bool) (s : Sl), e = [.sh (.tuple [.int n, .tuple ls]), .sh (sd c), .ol (us.map sd), .sh (sd w), .sh (.bool b), s]) ⟨_, _, rfl⟩ ?_ ?_
      · rintro j x _ N hx ⟨b, s, rfl⟩ next
        have hj : j < ls.length := by simpa using (List.getElem?_eq_some_iff.mp hx).1
        rw [rng_get (by simpa using hj)] at hx
        cases hx
        obtain ⟨y, hy⟩ := get_of hj
        obtain ⟨g, hg⟩ := get_of (l := c) (i := j) (by omega)
        refine ix_tup (by decide) rfl (ix_tup (d := y) (by omega) (by simpa using hy) (ix_sd (c := g) (by omega) (by omega) (by simpa using hg) ?_))
        refine ⟨y, n, [g], w, rfl, hls y (List.mem_of_getElem? hy), hw3.2, by omega, fun b => ?_⟩
        refine ⟨fun _ => next _ ⟨_, _, rfl⟩, fun _ => next _ ⟨_, _, rfl⟩⟩
      · rintro _ ⟨b, s, rfl⟩
        refine ⟨fun _ => ⟨?_, ?_⟩, fun _ => ?_⟩
        · rw [line24, List.length_map]; omega
        · refine next _ ⟨us ++ [w], _, _, _, ?_, by rw [List.map_append]; rfl⟩
          rw [e1]
          exact hs.append (List.Sublist.refl _)
        · refine next _ ⟨us, _, _, _, ?_, rfl⟩
          rw [e1]
          exact hs.trans (List.sublist_append_left _ _)
    · rintro _ ⟨us, p, q, s, hs, rfl⟩
      rw [List.length_map, List.take_length] at hs
      exact h us _ _ _ _ _ hs
  have h64 := pow6 hn
  have fin : ∀ (us : List Wd) (a b p q s : Sl), us.Sublist ws → (dRet (dVar 2)) (DE0 Q) [a, b, .ol (us.map sd), p, q, s] := fun us a b p q s hs =>
    ⟨by decide, k us ⟨hw.1.sublist hs, fun w h => hw.2 w (hs.subset h)⟩ (by have := hs.length_le; omega)⟩
  rcases hr with rfl | rfl
  · exact fun _ => key _ _ rfl fin
  · exact fun _ => key _ _ rfl fin

end HD


set_option Elab.async false
set_option linter.all false
set_option maxRecDepth 100000
set_option maxHeartbeats 4000000
namespace HD
open PySem PySem.Spec PyProof.Rows L2
local macro_rules | `(tactic| walk_at "w") => `(tactic| conv => whnf)
local macro_rules | `(tactic| walk_at "ar") => `(tactic| (try dsimp only) <;> first | omega | decide | assumption)
local macro_rules | `(tactic| walk_at "bk") => `(tactic| first | rfl | (refine Eq.trans (b := true) ?_ rfl; rfl))
theorem okInts {is : List Int} {n : Nat} : ∀ d ∈ is.map PyData.int, Ok n d := fun d hd => by
  obtain ⟨i, _, rfl⟩ := List.mem_map.mp hd
  exact Ok.int
theorem ok2 {n : Nat} {a b : D} (ha : Ok n a) (hb : Ok n b) : ∀ d ∈ [a, b], Ok n d := fun d hd => by
  rcases List.mem_cons.mp hd with rfl | hd
  · exact ha
  · rw [List.mem_singleton.mp hd]; exact hb
theorem LotOf.ok {n m : Nat} {d : D} (h : LotOf n m d) : Ok 3 d := by
  obtain ⟨is, z, rfl, _, _, _, _, hb⟩ := h
  exact Ok.tup (ok2 (Ok.tup (n := 1) okInts) hb.ok)
theorem log01 {r : Int} (h : r = 0 ∨ r = 1) : r.natAbs.log2 < 1920 := by rcases h with rfl | rfl <;> decide
theorem map_of {α β : Type} {f : α → β} {p : α → Prop} : ∀ {es : List β}, (∀ e ∈ es, ∃ a, p a ∧ e = f a) → ∃ l : List α, es = l.map f ∧ ∀ a ∈ l, p a
  | [], _ => ⟨[], rfl, fun a h => by cases h⟩
  | e :: es, h => by
    obtain ⟨a, h1, rfl⟩ := h e List.mem_cons_self
    obtain ⟨l, rfl, h2⟩ := map_of fun x hx => h x (List.mem_cons_of_mem _ hx)
    exact ⟨a :: l, rfl, fun x hx => by
      rcases List.mem_cons.mp hx with rfl | hx
      · exact h1
      · exact h2 x hx⟩
theorem ok_law_lot : ∀ xs ds Q, s_law_lot xs ds Q → rd_law_lot (DE1 Q) (start1 N_law_lot.length xs ds) := by
  rintro xs ds Q ⟨n, m, rfl, hn0, hn, hm0, hm, hs, k⟩
  refine ⟨Nat.zero_le _, ⟨_, rfl, by omega, hs, fun r0 ys h0 h1 hs => add_i ⟨by omega, by omega, ?_⟩⟩⟩
  refine loop_inv (fun i e => ∃ (is : List Int) (ys : List D) (a b : Sl), (∀ x ∈ is, 0 ≤ x ∧ x < n) ∧ is.length ≤ i ∧ (0 < i → is ≠ []) ∧ Strm ys ∧ (b = .un ∨ ∃ d, b = .sh d) ∧ e = [.ol ys, .sh (.int n), .sh (.int m), .ol (is.map PyData.int), a, b, .un]) ⟨[], ys, _, _, fun x hx => (by cases hx), Nat.le_refl _, fun h => absurd h (by decide), hs, .inl rfl, rfl⟩ ?_ ?_
  · rintro i x _ N hx ⟨is, ys, a, b, hi, hl, hne, hs, hb, rfl⟩ next
    have hi64 : i < (1 + r0).toNat := by simpa using (List.getElem?_eq_some_iff.mp hx).1
    refine ⟨_, rfl, by omega, hs, fun r ys' h2 h3 hs' => ?_⟩
    refine in_l (Ok.int (n := 3)).okD (okList (n := 1) okInts) ⟨fun h => ⟨?_, ?_⟩, fun h => ?_⟩
    · rw [line24, List.length_map]; omega
    · refine next _ ⟨is ++ [r], ys', _, _, fun x hx => ?_, by simp <;> omega, fun _ => by simp, hs', .inr ⟨_, rfl⟩, by rw [List.map_append]; rfl⟩
      rcases List.mem_append.mp hx with hx | hx
      · exact hi x hx
      · rw [List.mem_singleton.mp hx]; exact ⟨h2, h3⟩
    · refine next _ ⟨is, ys', _, _, hi, by omega, fun _ z => ?_, hs', .inr ⟨_, rfl⟩, rfl⟩
      subst z
      cases h
  · rintro _ ⟨is, ys, a, b, hi, hl, hne, hs, hb, rfl⟩
    rw [rng_length] at hl hne
    refine ⟨rfl, fun _ => ⟨?_, ⟨by rcases hb with rfl | ⟨_, rfl⟩ <;> trivial, trivial⟩, ?_⟩⟩
    · rw [line24, List.length_map]; omega
    refine lc_bits (i := 4) rfl hs fun zs ys hz hb hs => ?_
    rw [List.length_map] at hz
    refine join_bits hz (by omega) hb fun w h1 h2 => ?_
    exact ⟨(show (2 : Nat) ≤ 1000 by decide), k _ _ ⟨is, w, rfl, hne (by omega), by omega, hi, h2, h1⟩ hs⟩
/-- [_law_take(stream, 2) for x in xs] -/
theorem lc_takes {r : List Sl} {i : Nat} {xs ys : List D} {Q : List D → List Sl → Prop} (hr : r[i]? = some .un) (hy : Strm ys)
    (k : ∀ (zs : List Int) ys', zs.length = xs.length → (∀ z ∈ zs, z = 0 ∨ z = 1) → Strm ys' → Q (zs.map PyData.int) (.ol ys' :: r)) :
    HC (dgN (i + 1)) dYes (dCall1 s_law_take (dCons (dVar 0) (dCons (dC (.int 2)) dNil))) [i + 1] Q xs [] (.ol ys :: r) := by
  refine lc_inv (fun j acc e => ∃ (zs : List Int) (ys' : List D), acc = zs.map PyData.int ∧ zs.length = j ∧ (∀ z ∈ zs, z = 0 ∨ z = 1) ∧ Strm ys' ∧ e = .ol ys' :: r) ⟨[], ys, rfl, rfl, fun z hz => (by cases hz), hy, rfl⟩ ?_ ?_
  · rintro j x _ _ N hj ⟨zs, ys', rfl, hz, hb, hs, rfl⟩ next
    refine br_t ⟨2, rfl, by decide, hs, fun c ys2 h0 h1 hs2 => ?_⟩
    refine next _ _ ⟨zs ++ [c], ys2, by simp, by simp [hz], fun z hm => ?_, hs2, ?_⟩
    · rcases List.mem_append.mp hm with hm | hm
      · exact hb z hm
      · rw [List.mem_singleton.mp hm]; omega
    · show Sl.ol ys2 :: ((r.set i _).set i .un) = _
      rw [set_un hr]
  · rintro _ _ ⟨zs, ys', rfl, hz, hb, hs, rfl⟩
    exact k zs ys' hz hb hs
theorem str01 {v : Int} (h : v = 0 ∨ v = 1) : ∃ c, (c = 48 ∨ c = 49) ∧ PyData.str (toString v : String) = sd [c] := by
  have h0 : Str.ofString (toString (0 : Int)) = SX.S [48] := by decide +kernel
  have h1 : Str.ofString (toString (1 : Int)) = SX.S [49] := by decide +kernel
  rcases h with rfl | rfl
  · exact ⟨48, .inl rfl, congrArg PyData.str h0⟩
  · exact ⟨49, .inr rfl, congrArg PyData.str h1⟩
/-- the other ways to a lot -/
theorem lots_t2 {n m i : Nat} {wd : List Int} {sh : Int} {ls ys : List D} {lot : D} {c : Sl} {De : DE} (hl : ls.length ≤ 64) (hls : ∀ x ∈ ls, LotOf n 65 x) (hlot : LotOf n 65 lot) (hs : Strm ys)
    (fin : ∀ (lot : D) (ys : List D) (c : Sl), LotOf n 65 lot → Strm ys → De.nx [.ol ys, .sh (.int n), .sh (.int m), .ol (wd.map PyData.int), .sh (.int sh), .ol ls, .sh (.int (0 + (i : Int))), .sh lot, c, .un]) :
    (dIfS (dAnd (dT (dOp eqD (dVar 4) (dC (.int 2)))) (dAnd (dT (dOp gtD (dB lenD (dCons (dVar 5) dNil)) (dC (.int 0)))) (dT (dOp eqD (dCall1 s_law_take (dCons (dVar 0) (dCons (dC (.int 2)) dNil))) (dC (.int 0)))))) (dSeq (dAsg 8 (dOp ixD (dOp ixD (dVar 5) (dCall1 s_law_take (dCons (dVar 0) (dCons (dB lenD (dCons (dVar 5) dNil)) dNil)))) (dC (.int 0))))
        (dAsg 7 (dTup (dCons (dVar 8) (dCons (dM joinD isStrD (dC (.str (Str.ofString ""))) (dCons (dLc (dgN 9) (dIt (dVar 8)) dYes (dOp ixD (dC (.str (Str.ofString "01"))) (dCall1 s_law_take (dCons (dVar 0) (dCons (dC (.int 2)) dNil)))) [9]) dNil)) dNil))))) dNext) De [.ol ys, .sh (.int n), .sh (.int m), .ol (wd.map PyData.int), .sh (.int sh), .ol ls, .sh (.int (0 + (i : Int))), .sh lot, c, .un] := by
  refine eq_i ⟨fun _ => ⟨fun hpos => ?_, fun _ => br_f (fin lot ys c hlot hs)⟩, fun _ => br_f (fin lot ys c hlot hs)⟩
  have hpos : (0 : Int) < ls.length := of_decide_eq_true hpos
  refine ⟨_, rfl, by decide, hs, fun q ys h0 h1 hs => eq_i ⟨fun _ => ?_, fun _ => fin lot ys c hlot hs⟩⟩
  refine ⟨_, rfl, hpos, hs, fun q ys h0 h1 hs => ?_⟩
  obtain ⟨x, hx⟩ := get_of (l := ls) (i := q.toNat) (by omega)
  obtain ⟨is, z, rfl, g1, g2, g3, g4, g5⟩ := hls x (List.mem_of_getElem? hx)
  refine ix_list h0 hx (ix_tup (by decide) rfl ?_)
  refine ⟨rfl, fun _ => ⟨?_, ⟨trivial, trivial⟩, ?_⟩⟩
  · rw [line24, List.length_map]; omega
  refine lc_bits (i := 8) rfl hs fun zs ys hz hb hs => ?_
  rw [List.length_map] at hz
  refine join_bits hz (by omega) hb fun w h1 h2 => ⟨(show (2 : Nat) ≤ 1000 by decide), ?_⟩
  exact fin _ ys _ ⟨is, w, rfl, g1, g2, g3, h2, h1⟩ hs
theorem lots_t1 {n m i : Nat} {wd : List Int} {sh : Int} {ls ys : List D} {lot : D} {c : Sl} {De : DE} (hwl : wd.length = n) (hwd : ∀ z ∈ wd, z = 0 ∨ z = 1) (hl : ls.length ≤ 64) (hls : ∀ x ∈ ls, LotOf n 65 x) (hlot : LotOf n 65 lot) (hs : Strm ys)
    (fin : ∀ (lot : D) (ys : List D) (c : Sl), LotOf n 65 lot → Strm ys → De.nx [.ol ys, .sh (.int n), .sh (.int m), .ol (wd.map PyData.int), .sh (.int sh), .ol ls, .sh (.int (0 + (i : Int))), .sh lot, c, .un]) :
    (dIfS (dT (dOp eqD (dVar 4) (dC (.int 1)))) (dAsg 7 (dTup (dCons (dOp ixD (dVar 7) (dC (.int 0))) (dCons (dM joinD isStrD (dC (.str (Str.ofString ""))) (dCons (dLc (dgN 9) (dIt (dOp ixD (dVar 7) (dC (.int 0)))) dYes (dB toStrD (dCons (dOp ixD (dVar 3) (dVar 9)) dNil)) [9]) dNil)) dNil)))) (dIfS (dAnd (dT (dOp eqD (dVar 4) (dC (.int 2)))) (dAnd (dT (dOp gtD (dB lenD (dCons (dVar 5) dNil)) (dC (.int 0)))) (dT (dOp eqD (dCall1 s_law_take (dCons (dVar 0) (dCons (dC (.int 2)) dNil))) (dC (.int 0)))))) (dSeq (dAsg 8 (dOp ixD (dOp ixD (dVar 5) (dCall1 s_law_take (dCons (dVar 0) (dCons (dB lenD (dCons (dVar 5) dNil)) dNil)))) (dC (.int 0))))
        (dAsg 7 (dTup (dCons (dVar 8) (dCons (dM joinD isStrD (dC (.str (Str.ofString ""))) (dCons (dLc (dgN 9) (dIt (dVar 8)) dYes (dOp ixD (dC (.str (Str.ofString "01"))) (dCall1 s_law_take (dCons (dVar 0) (dCons (dC (.int 2)) dNil)))) [9]) dNil)) dNil))))) dNext)) De [.ol ys, .sh (.int n), .sh (.int m), .ol (wd.map PyData.int), .sh (.int sh), .ol ls, .sh (.int (0 + (i : Int))), .sh lot, c, .un] := by
  refine eq_i ⟨fun _ => ?_, fun _ => lots_t2 hl hls hlot hs fin⟩
  obtain ⟨is, z, rfl, g1, g2, g3, g4, g5⟩ := hlot
  refine ix_tup (by decide) rfl ⟨rfl, ix_tup (by decide) rfl fun _ => ⟨?_, ⟨trivial, trivial⟩, ?_⟩⟩
  · rw [line24, List.length_map]; omega
  refine lc_inv (fun j acc e => ∃ zs : List Wd, acc = zs.map sd ∧ zs.length = j ∧ (∀ z ∈ zs, Bt z ∧ z.length = 1) ∧ e = [.ol ys, .sh (.int n), .sh (.int m), .ol (wd.map PyData.int), .sh (.int sh), .ol ls, .sh (.int (0 + (i : Int))), .sh (.tuple [.tuple (is.map PyData.int), sd z]), c, .un]) ⟨[], rfl, rfl, fun z hz => (by cases hz), rfl⟩ ?_ ?_
  · rintro j x _ _ N hj ⟨zs, rfl, hz, hb, rfl⟩ next
    rw [List.getElem?_map, Option.map_eq_some_iff] at hj
    obtain ⟨w, hw, rfl⟩ := hj
    obtain ⟨w0, w1⟩ := g3 w (List.mem_of_getElem? hw)
    obtain ⟨v, hv⟩ := get_of (l := wd) (i := w.toNat) (by omega)
    have hv2 := hwd v (List.mem_of_getElem? hv)
    refine br_t (ix_list (d := .int v) w0 (by rw [List.getElem?_map, hv]; rfl) ⟨log01 hv2, ?_⟩)
    obtain ⟨c, hc, e⟩ := str01 hv2
    refine next _ _ ⟨zs ++ [[c]], ?_, by simp [hz], fun z hm => ?_, rfl⟩
    · rw [List.map_append]
      show zs.map sd ++ [PyData.str (toString v : String)] = _
      rw [e]
      rfl
    · rcases List.mem_append.mp hm with hm | hm
      · exact hb z hm
      · rw [List.mem_singleton.mp hm]
        exact ⟨Bt.cons hc fun c hc => (by cases hc), rfl⟩
  · rintro _ _ ⟨zs, rfl, hz, hb, rfl⟩
    rw [List.length_map] at hz
    refine join_bits hz (by omega) hb fun w h1 h2 => ⟨(show (2 : Nat) ≤ 1000 by decide), ?_⟩
    exact fin _ ys _ ⟨is, w, rfl, g1, g2, g3, h2, h1⟩ hs
theorem ok_law_lots : ∀ xs ds Q, s_law_lots xs ds Q → rd_law_lots (DE1 Q) (start1 N_law_lots.length xs ds) := by
  rintro xs ds Q ⟨n, m, rfl, hn0, hn, hm, hs, k⟩
  refine ⟨by omega, by omega, by rw [line24]; simp <;> omega, ⟨trivial, trivial⟩, ?_⟩
  refine lc_takes (i := 5) rfl hs fun wd ys hwl hwd hs => ?_
  refine ⟨_, rfl, by decide, hs, fun sh ys hsh0 hsh1 hs => ⟨Nat.zero_le _, ?_⟩⟩
  refine add_i ⟨_, rfl, by omega, hs, fun cnt ys h0 h1 hs => ⟨by omega, by omega, ?_⟩⟩
  refine loop_inv (fun i e => ∃ (ls : List D) (ys : List D) (a b c : Sl), (∀ x ∈ ls, LotOf n 65 x) ∧ ls.length ≤ i ∧ Strm ys ∧ e = [.ol ys, .sh (.int n), .sh (.int m), .ol (wd.map PyData.int), .sh (.int sh),   .ol ls, a, b, c, .un]) ⟨[], ys, _, _, _, fun x hx => (by cases hx), Nat.le_refl _, hs, rfl⟩ ?_ ?_
  · rintro i x _ N hx ⟨ls, ys, a, b, c, hls, hl, hs, rfl⟩ next
    have hi64 : i < cnt.toNat := by simpa using (List.getElem?_eq_some_iff.mp hx).1
    rw [rng_get (by simpa using hi64)] at hx
    cases hx
    refine ⟨n, 4, rfl, hn0, hn, by decide, by decide, hs, fun lot ys hlot hs => ?_⟩
    have fin : ∀ (lot : D) (ys : List D) (c : Sl), LotOf n 65 lot → Strm ys → (dDrop (dMt appD 5 (dCons (dVar 7) dNil))) { nx := N, rt := (DE1 Q).rt, bk := dRet (dVar 5) (DE1 Q), ct := N } [.ol ys, .sh (.int n), .sh (.int m), .ol (wd.map PyData.int), .sh (.int sh), .ol ls, .sh (.int (0 + (i : Int))), .sh lot, c, .un] := fun lot ys c hlot hs => by
      refine ⟨by rw [line24]; omega, next _ ⟨ls ++ [lot], ys, _, _, _, fun x hx => ?_, by simp <;> omega, hs, rfl⟩⟩
      rcases List.mem_append.mp hx with hx | hx
      · exact hls x hx
      · rw [List.mem_singleton.mp hx]; exact hlot
    have tail := fun De fin => lots_t1 (n := n) (m := m) (i := i) (sh := sh) (c := c) (De := De) (by simpa using hwl) hwd (by omega) hls hlot hs fin
    refine eq_i ⟨fun _ => ⟨fun hn1 => ?_, fun _ => tail _ fin⟩, fun _ => br_f (tail _ fin)⟩
    have hn1 : (1 : Int) < n := of_decide_eq_true hn1
    refine ⟨by omega, add_i ⟨by omega, ⟨(show (2 : Nat) ≤ 1000 by decide), (show (2 : Nat) ≤ 1000 by decide), ?_⟩⟩⟩
    refine fin _ ys _ ⟨[(0 + (i : Int)) % n, ((0 + (i : Int)) + 1) % n], [48, 49], rfl, by simp, by simp, fun x hx => ?_, rfl, Bt.cons (.inl rfl) (Bt.cons (.inr rfl) fun c hc => (by cases hc))⟩ hs
    have a1 := Int.emod_nonneg (0 + (i : Int)) (b := (n : Int)) (by omega)
    have a2 := Int.emod_lt_of_pos (0 + (i : Int)) (b := (n : Int)) (by omega)
    have a3 := Int.emod_nonneg (0 + (i : Int) + 1) (b := (n : Int)) (by omega)
    have a4 := Int.emod_lt_of_pos (0 + (i : Int) + 1) (b := (n : Int)) (by omega)
    rcases List.mem_cons.mp hx with rfl | hx
    · exact ⟨a1, a2⟩
    · rw [List.mem_singleton.mp hx]; exact ⟨a3, a4⟩
  · rintro _ ⟨ls, ys, a, b, c, hls, hl, hs, rfl⟩
    rw [rng_length] at hl
    exact ⟨by decide, k ls ys hls (by omega) hs⟩

end HD


set_option Elab.async false
set_option linter.all false
set_option maxRecDepth 100000
set_option maxHeartbeats 4000000
namespace HD
open PySem PySem.Spec PyProof.Rows L2
local macro_rules | `(tactic| walk_at "w") => `(tactic| conv => whnf)
local macro_rules | `(tactic| walk_at "ar") => `(tactic| (try dsimp only) <;> first | omega | decide | assumption)
local macro_rules | `(tactic| walk_at "bk") => `(tactic| first | rfl | (refine Eq.trans (b := true) ?_ rfl; rfl))
def pf (p : Int × Nat) : D := .tuple [.int p.1, sd [p.2]]
theorem flat1 (l : List (Int × Nat)) : (l.map fun p => [p.2]).flatten.length = l.length := by
  rw [flat_len1 (fun z hz => by
    obtain ⟨p, _, rfl⟩ := List.mem_map.mp hz
    rfl), List.length_map]
theorem std_tail {n m : Nat} {qs : List (Int × Nat)} {d : D} {y : Wd} {Q : R → Prop} (hq : ∀ p ∈ qs, 0 ≤ p.1 ∧ p.1 < n) (hl : qs.length ≤ m) (hm : m ≤ 1000) (h0 : qs ≠ []) (hy : Bt y) (hyl : y.length = qs.length) (k : ∀ d', LotOf n m d' → Q (.val d')) :
    (dRet (dTup (dCons (dB toTupD (dCons (dLc (dgN 4) (dIt (dVar 1)) dYes (dOp ixD (dVar 4) (dC (.int 0))) [4]) dNil)) (dCons (dVar 2) dNil)))) (DE0 Q) [.sh d, .sh (.list (qs.map pf)), .sh (sd y), .un, .un] := by
  intro _
  refine ⟨by rw [line24, List.length_map]; omega, ⟨trivial, trivial⟩, ?_⟩
  refine lc_inv (fun j acc e => acc = ((qs.take j).map (·.1)).map PyData.int ∧ e = [.sh d, .sh (.list (qs.map pf)), .sh (sd y), .un, .un]) ⟨rfl, rfl⟩ ?_ ?_
  · rintro j x _ _ N hj ⟨rfl, rfl⟩ next
    rw [List.getElem?_map, Option.map_eq_some_iff] at hj
    obtain ⟨p, hp, rfl⟩ := hj
    refine br_t (ix_tup (by decide) rfl ?_)
    refine next _ _ ⟨?_, rfl⟩
    rw [List.take_add_one, hp, List.map_append, List.map_append]
    rfl
  · rintro _ _ ⟨rfl, rfl⟩
    rw [List.length_map, List.take_length]
    refine ⟨⟨(show (2 : Nat) ≤ 1000 by decide), k _ ⟨qs.map (·.1), y, rfl, by simpa using h0, by simpa using hl, fun i hi => ?_, by simpa using hyl, hy⟩⟩⟩
    obtain ⟨p, hp, rfl⟩ := List.mem_map.mp hi
    exact hq p hp
theorem ok_law_standard : ∀ ds Q, s_law_standard ds Q → rd_law_standard (DE0 Q) (start0 N_law_standard.length ds) := by
  rintro ds Q ⟨d, n, m, rfl, ⟨is, z, rfl, h0, hm, hi, hz, hb⟩, hm2, k⟩
  refine ix_tup (by decide) rfl ⟨by simp <;> omega, by simp <;> omega, by rw [line24]; simp <;> omega, ⟨trivial, trivial⟩, ?_⟩
  refine lc_inv (fun j acc e => ∃ ps : List (Int × Nat), acc = ps.map pf ∧ ps.length = j ∧ (∀ p ∈ ps, (0 ≤ p.1 ∧ p.1 < n) ∧ (p.2 = 48 ∨ p.2 = 49)) ∧ e = [.sh (.tuple [.tuple (is.map PyData.int), sd z]), .un, .un, .un, .un]) ⟨[], rfl, rfl, fun z hz => (by cases hz), rfl⟩ ?_ ?_
  · rintro j x _ _ N hj ⟨ps, rfl, hl, hp, rfl⟩ next
    have hjl : j < is.length := by simpa using (List.getElem?_eq_some_iff.mp hj).1
    rw [rng_get (by simpa using hjl)] at hj
    cases hj
    obtain ⟨i, hi2⟩ := get_of hjl
    obtain ⟨c, hc⟩ := get_of (l := z) (i := j) (by omega)
    refine br_t (ix_tup (by decide) rfl (ix_tup (d := .int i) (by omega) (by simp [hi2]) ?_))
    refine ix_tup (by decide) rfl (ix_sd (c := c) (by omega) (by omega) (by simpa using hc) ⟨(show (2 : Nat) ≤ 1000 by decide), ?_⟩)
    refine next _ _ ⟨ps ++ [(i, c)], by rw [List.map_append]; rfl, by simp [hl], fun p hm => ?_, rfl⟩
    rcases List.mem_append.mp hm with hm | hm
    · exact hp p hm
    · rw [List.mem_singleton.mp hm]
      exact ⟨hi i (List.mem_of_getElem? hi2), hb.get hc⟩
  · rintro _ _ ⟨ps, rfl, hl, hp, rfl⟩
    have hl : ps.length = is.length := by simpa using hl
    refine sort_l (.sTups .I [.S] fun d hd => ?_) fun es _ hes => ?_
    · obtain ⟨p, hp2, rfl⟩ := List.mem_map.mp hd
      refine ⟨_, rfl, .cons ⟨_, rfl⟩ (.cons ⟨_, rfl⟩ .nil), (Ok.tup (n := 5) (ok2 Ok.int (Bt.ok ?_))).1⟩
      exact Bt.cons (hp p hp2).2 fun c hc => (by cases hc)
    · obtain ⟨qs, rfl, hq⟩ := map_of (f := pf) (p := fun p => p ∈ ps) (es := es) fun e he => by
        obtain ⟨p, h1, h2⟩ := List.mem_map.mp (hes.perm.mem_iff.mp he)
        exact ⟨p, h1, h2.symm⟩
      have hql : qs.length = is.length := by
        have := hes.perm.length_eq
        simpa [hl] using this
      refine ⟨rfl, fun _ => ⟨by rw [line24, List.length_map]; omega, ⟨trivial, trivial⟩, ?_⟩⟩
      refine lc_inv (fun j acc e => acc = ((qs.take j).map fun p => [p.2]).map sd ∧ e = [.sh (.tuple [.tuple (is.map PyData.int), sd z]), .sh (.list (qs.map pf)), .un, .un, .un]) ⟨rfl, rfl⟩ ?_ ?_
      · rintro j x _ _ N hj ⟨rfl, rfl⟩ next
        rw [List.getElem?_map, Option.map_eq_some_iff] at hj
        obtain ⟨p, hp, rfl⟩ := hj
        refine br_t (ix_tup (by decide) rfl ?_)
        refine next _ _ ⟨?_, rfl⟩
        rw [List.take_add_one, hp, List.map_append, List.map_append]
        rfl
      · rintro _ _ ⟨rfl, rfl⟩
        rw [List.length_map, List.take_length]
        have hfl := flat1 qs
        have hbt : Bt (qs.map fun p => [p.2]).flatten := Bt.flat fun w hw => by
          obtain ⟨p, h1, rfl⟩ := List.mem_map.mp hw
          exact Bt.cons (hp p (hq p h1)).2 fun c hc => (by cases hc)
        refine join_sd (by rw [hfl]; omega) ?_
        have hne : qs ≠ [] := fun z => by
          rw [z] at hql
          exact h0 (List.eq_nil_of_length_eq_zero hql.symm)
        generalize (qs.map fun p => [p.2]).flatten = y at hfl hbt
        have hpos : 0 < is.length := List.length_pos_iff.mpr h0
        obtain ⟨c, hc⟩ := get_of (l := y) (i := 0) (by omega)
        have tl := fun (y : Wd) hy hyl => std_tail (n := n) (m := m) (qs := qs) (d := .tuple [.tuple (is.map PyData.int), sd z]) (y := y) (Q := Q) (fun p h => (hp p (hq p h)).1) (by omega) hm2 hne hy hyl k
        refine ix_sd (by omega) (by decide) hc (eq_sd (b := [49]) ⟨fun _ => ?_, fun _ => tl y hbt hfl⟩)
        exact ⟨y, rfl, hbt, by omega, fun y2 h1 h2 => tl y2 h1 (by omega)⟩
theorem ok_law_bus : ∀ ds Q, s_law_bus ds Q → rd_law_bus (DE0 Q) (start0 N_law_bus.length ds) := by
  rintro ds Q ⟨n, ls, rfl, hls, hl, k⟩
  refine ⟨Nat.zero_le _, fun _ => ⟨by rw [line24]; omega, ⟨trivial, trivial⟩, ?_⟩⟩
  refine lc_inv (fun j acc e => acc.length = j ∧ (∀ x ∈ acc, LotOf n 65 x) ∧ e = [.sh (.int n), .sh (.list ls), .ol [], .un]) ⟨rfl, fun z hz => (by cases hz), rfl⟩ ?_ ?_
  · rintro j x acc _ N hj ⟨hl, ha, rfl⟩ next
    refine br_t ⟨x, n, 65, rfl, hls x (List.mem_of_getElem? hj), by decide, fun d' hd => ?_⟩
    refine next _ _ ⟨by simp [hl], fun y hy => ?_, rfl⟩
    rcases List.mem_append.mp hy with hy | hy
    · exact ha y hy
    · rw [List.mem_singleton.mp hy]; exact hd
  · rintro acc _ ⟨hal, ha, rfl⟩
    refine sort_l (.sTups .T [.S] fun d hd => ?_) fun es _ hes => ?_
    · have ok := (ha d hd).ok.1
      obtain ⟨is, z, rfl, h⟩ := ha d hd
      exact ⟨_, rfl, .cons ⟨is, rfl⟩ (.cons ⟨_, rfl⟩ .nil), ok⟩
    · have hel := hes.perm.length_eq
      intro _
      refine loop_inv (fun j e => ∃ (fs : List D) (b : Sl), fs.length ≤ j ∧ (∀ x ∈ fs, LotOf n 65 x) ∧ e = [.sh (.int n), .sh (.list ls), .ol fs, b]) ⟨[], _, Nat.le_refl _, fun z hz => (by cases hz), rfl⟩ ?_ ?_
      · rintro j x _ N hj ⟨fs, b, hl2, hf, rfl⟩ next
        have hx := ha x (hes.perm.mem_iff.mp (List.mem_of_getElem? hj))
        have hjl := (List.getElem?_eq_some_iff.mp hj).1
        refine in_l hx.ok.okD (okList (n := 3) fun d hd => (hf d hd).ok) ⟨fun h => ⟨by rw [line24]; omega, ?_⟩, fun h => ?_⟩
        · refine next _ ⟨fs ++ [x], _, by simp <;> omega, fun y hy => ?_, rfl⟩
          rcases List.mem_append.mp hy with hy | hy
          · exact hf y hy
          · rw [List.mem_singleton.mp hy]; exact hx
        · exact next _ ⟨fs, _, by omega, hf, rfl⟩
      · rintro _ ⟨fs, b, hl2, hf, rfl⟩
        exact ⟨⟨(show (2 : Nat) ≤ 1000 by decide), k _ ⟨fs, rfl, hf, by omega⟩⟩⟩
theorem WdsOf.join {n m : Nat} {ws : List Wd} {f : Wd → Wd} (h : WdsOf n ws) (hi : ∀ u v, f u = f v → u = v) (hb : ∀ w, Bt w → Bt (f w)) (hl : ∀ w, (f w).length = w.length + m) : WdsOf (n + m) (ws.map f) := by
  refine ⟨(List.pairwise_map.mpr (h.1.imp fun hne he => hne (hi _ _ he))), fun w hw => ?_⟩
  obtain ⟨u, hu, rfl⟩ := List.mem_map.mp hw
  exact ⟨hb u (h.2 u hu).1, by rw [hl, (h.2 u hu).2]⟩
theorem WdsOf.perm {n : Nat} {us ws : List Wd} (h : WdsOf n ws) (p : us.Perm ws) : WdsOf n us := ⟨p.nodup_iff.mpr h.1, fun w hw => h.2 w (p.mem_iff.mp hw)⟩
theorem lc_wide {ws : List Wd} {f : Wd → Wd} {r : List Sl} {v : Nat} {ir : TED} {Q : List D → List Sl → Prop} (hr : ∀ x, wipeE (r.set v x) [v] = r)
    (hir : ∀ (w : Wd) (P : R → List Sl → Prop), w ∈ ws → P (.val (sd (f w))) (r.set v (.sh (sd w))) → ir (r.set v (.sh (sd w))) P) (k : Q ((ws.map f).map sd) r) : HC (dgN v) dYes ir [v] Q (ws.map sd) [] r := by
  refine lc_inv (fun j acc e => acc = ((ws.take j).map f).map sd ∧ e = r) ⟨rfl, rfl⟩ ?_ ?_
  · rintro j x _ _ N hj ⟨rfl, rfl⟩ next
    rw [List.getElem?_map, Option.map_eq_some_iff] at hj
    obtain ⟨w, hw, rfl⟩ := hj
    refine br_t (hir w _ (List.mem_of_getElem? hw) ?_)
    have e2 := hr (.sh (sd w))
    show N _ (wipeE (List.set _ v (.sh (sd w))) [v])
    rw [e2]
    refine next _ _ ⟨?_, rfl⟩
    rw [List.take_add_one, hw, List.map_append, List.map_append]
    rfl
  · rintro _ _ ⟨rfl, rfl⟩
    rw [List.length_map, List.take_length]
    exact k
theorem ok_law_wide_words : ∀ xs ds Q, s_law_wide_words xs ds Q → rd_law_wide_words (DE1 Q) (start1 N_law_wide_words.length xs ds) := by
  rintro xs ds Q ⟨rfl, hs, k⟩
  refine ⟨54, rfl, by decide, hs, fun t ys ht htl hs => ?_⟩
  refine ⟨6, rfl, by decide, fun ws r hw hwl hr => ?_⟩
  have h64 := pow6 (Nat.le_refl 6)
  have tail : ∀ (us : List Wd) (ys : List D) (s : Sl), WdsOf 60 us → us.length = 64 → Strm ys → (dSeq (dAsg 2 (dCall1 s_law_shuffled (dCons (dVar 0) (dCons (dVar 2) dNil))))
  (dSeq (dIfS (dT (dOp gtD (dCall1 s_law_take (dCons (dVar 0) (dCons (dC (.int 6)) dNil))) (dC (.int 0)))) (dRet (dSlice (dVar 2) doNo (doSo (dCall1 s_law_take (dCons (dVar 0) (dCons (dC (.int 13)) dNil)))))) dNext)
  (dRet (dVar 2)))) (DE1 Q) [.ol ys, .sh (sd t), .ol (us.map sd), s] := fun us ys s hu hul hs => by
    refine ⟨us.map sd, rfl, by rw [List.length_map]; omega, hs, fun vs ys hp hs => ?_⟩
    obtain ⟨vs, rfl, hv⟩ := map_of (f := sd) (p := fun w => w ∈ us) (es := vs) fun e he => by
      obtain ⟨p, h1, h2⟩ := List.mem_map.mp (hp.mem_iff.mp he)
      exact ⟨p, h1, h2.symm⟩
    have hp2 : vs.Perm us := by
      have e1 : (vs.map sd).map (fun d => match d with | .str z => z.cps.toList | _ => []) = vs := by rw [List.map_map]; exact List.map_id _
      have e2 : (us.map sd).map (fun d => match d with | .str z => z.cps.toList | _ => []) = us := by rw [List.map_map]; exact List.map_id _
      rw [← e1, ← e2]
      exact hp.map _
    have hv2 := hu.perm hp2
    have hvl := hp2.length_eq
    refine ⟨6, rfl, by decide, hs, fun q ys h0 h1 hs => ⟨fun _ => ?_, fun _ => ?_⟩⟩
    · refine ⟨13, rfl, by decide, hs, fun q ys h0 h1 hs => sl_l ?_⟩
      have e : cutD (vs.map sd) none (some q) = (vs.take q.toNat).map sd := by
        unfold cutD
        have e1 : HT.sIx (vs.map sd).length 0 none = 0 := rfl
        have e2 : HT.sIx (vs.map sd).length (vs.map sd).length (some q) = min q.toNat vs.length := by rw [List.length_map]; exact if_neg (by omega)
        rw [e1, e2, List.drop_zero, Nat.sub_zero, ← List.map_take]
        rw [show vs.take (min q.toNat vs.length) = vs.take q.toNat by rw [← List.take_take, List.take_length]]
      show Q (.fr (cutD (vs.map sd) none (some q))) ys
      rw [e]
      refine k _ ys ⟨hv2.1.sublist (List.take_sublist _ _), fun w h => hv2.2 w (List.mem_of_mem_take h)⟩ ?_ hs
      rw [List.length_take]
      omega
    · exact ⟨by decide, k vs ys hv2 (by omega) hs⟩
  have mid : ∀ (us : List Wd) (ys : List D), WdsOf 60 us → us.length = 64 → Strm ys → (dSeq (dIfS (dT (dOp eqD (dCall1 s_law_take (dCons (dVar 0) (dCons (dC (.int 2)) dNil))) (dC (.int 0)))) (dAsg 2 (dLc (dgN 3) (dIt (dCall0 s_law_words (dCons (dC (.int 6)) dNil))) dYes (dOp addD (dVar 1) (dVar 3)) [3])) dNext)
  (dSeq (dAsg 2 (dCall1 s_law_shuffled (dCons (dVar 0) (dCons (dVar 2) dNil))))
  (dSeq (dIfS (dT (dOp gtD (dCall1 s_law_take (dCons (dVar 0) (dCons (dC (.int 6)) dNil))) (dC (.int 0)))) (dRet (dSlice (dVar 2) doNo (doSo (dCall1 s_law_take (dCons (dVar 0) (dCons (dC (.int 13)) dNil)))))) dNext)
  (dRet (dVar 2))))) (DE1 Q) [.ol ys, .sh (sd t), .ol (us.map sd), .un] := fun us ys hu hul hs => by
    refine ⟨2, rfl, by decide, hs, fun q ys h0 h1 hs => eq_i ⟨fun _ => ?_, fun _ => tail us ys _ hu hul hs⟩⟩
    refine ⟨6, rfl, by decide, fun ws r hw hwl hr => ?_⟩
    have go : ws.length ≤ sizeLine ∧ (True ∧ True) ∧ HC (dgN 3) dYes (dOp addD (dVar 1) (dVar 3)) [3] (fun acc e2 => (dSeq (dAsg 2 (dCall1 s_law_shuffled (dCons (dVar 0) (dCons (dVar 2) dNil))))
      (dSeq (dIfS (dT (dOp gtD (dCall1 s_law_take (dCons (dVar 0) (dCons (dC (.int 6)) dNil))) (dC (.int 0)))) (dRet (dSlice (dVar 2) doNo (doSo (dCall1 s_law_take (dCons (dVar 0) (dCons (dC (.int 13)) dNil)))))) dNext)
      (dRet (dVar 2)))) (DE1 Q) ((backE [.ol ys, .sh (sd t), .ol (us.map sd), .un] e2 [3]).set 2 (.ol acc))) (ws.map sd) [] [.ol ys, .sh (sd t), .ol (us.map sd), .un] := by
      refine ⟨by rw [line24]; omega, ⟨trivial, trivial⟩, ?_⟩
      refine lc_wide (f := fun w => t ++ w) (v := 3) (fun _ => rfl) (fun w P hw2 h => add_sd (by have := (hw.2 w hw2).2; omega) h) ?_
      refine tail _ ys _ ?_ (by simp [hwl]) hs
      have := hw.join (m := 54) (f := fun w => t ++ w) (fun u v h => List.append_cancel_left h) (fun w hb => ht.app hb) (fun w => by simp [htl]; omega)
      exact this
    have go2 : (ws.map sd).length ≤ sizeLine := by rw [List.length_map]; exact go.1
    rcases hr with rfl | rfl
    · exact fun _ => ⟨go2, go.2⟩
    · exact fun _ => ⟨go2, go.2⟩
  have go : ∀ e0, e0 = [.ol ys, .sh (sd t), .un, .un] → HC (dgN 3) dYes (dOp addD (dVar 3) (dVar 1)) [3] (fun acc e2 => (dSeq (dIfS (dT (dOp eqD (dCall1 s_law_take (dCons (dVar 0) (dCons (dC (.int 2)) dNil))) (dC (.int 0)))) (dAsg 2 (dLc (dgN 3) (dIt (dCall0 s_law_words (dCons (dC (.int 6)) dNil))) dYes (dOp addD (dVar 1) (dVar 3)) [3])) dNext)
      (dSeq (dAsg 2 (dCall1 s_law_shuffled (dCons (dVar 0) (dCons (dVar 2) dNil))))
      (dSeq (dIfS (dT (dOp gtD (dCall1 s_law_take (dCons (dVar 0) (dCons (dC (.int 6)) dNil))) (dC (.int 0)))) (dRet (dSlice (dVar 2) doNo (doSo (dCall1 s_law_take (dCons (dVar 0) (dCons (dC (.int 13)) dNil)))))) dNext)
      (dRet (dVar 2))))) (DE1 Q) ((backE e0 e2 [3]).set 2 (.ol acc))) (ws.map sd) [] e0 := by
    rintro _ rfl
    refine lc_wide (f := fun w => w ++ t) (v := 3) (fun _ => rfl) (fun w P hw2 h => add_sd (by have := (hw.2 w hw2).2; omega) h) ?_
    refine mid _ ys ?_ (by simp [hwl]) hs
    have := hw.join (m := 54) (f := fun w => w ++ t) (fun u v h => List.append_cancel_right h) (fun w hb => hb.app ht) (fun w => by simp [htl])
    exact this
  have go2 : (ws.map sd).length ≤ sizeLine := by rw [List.length_map, line24]; omega
  rcases hr with rfl | rfl
  · exact fun _ => ⟨go2, ⟨trivial, trivial⟩, go _ rfl⟩
  · exact fun _ => ⟨go2, ⟨trivial, trivial⟩, go _ rfl⟩

end HD


set_option Elab.async false
set_option linter.all false
set_option maxRecDepth 100000
set_option maxHeartbeats 4000000
namespace HD
open PySem PySem.Spec PyProof.Rows L2
local macro_rules | `(tactic| walk_at "w") => `(tactic| conv => whnf)
local macro_rules | `(tactic| walk_at "ar") => `(tactic| (try dsimp only) <;> first | omega | decide | assumption)
local macro_rules | `(tactic| walk_at "bk") => `(tactic| first | rfl | (refine Eq.trans (b := true) ?_ rfl; rfl))
theorem perm_sd {us : List D} {ws : List Wd} (hp : us.Perm (ws.map sd)) : ∃ vs : List Wd, us = vs.map sd ∧ vs.Perm ws := by
  obtain ⟨vs, rfl, hv⟩ := map_of (f := sd) (p := fun w => w ∈ ws) (es := us) fun e he => by
    obtain ⟨p, h1, h2⟩ := List.mem_map.mp (hp.mem_iff.mp he)
    exact ⟨p, h1, h2.symm⟩
  refine ⟨vs, rfl, ?_⟩
  have e1 : (vs.map sd).map (fun d => match d with | .str z => z.cps.toList | _ => []) = vs := by rw [List.map_map]; exact List.map_id _
  have e2 : (ws.map sd).map (fun d => match d with | .str z => z.cps.toList | _ => []) = ws := by rw [List.map_map]; exact List.map_id _
  rw [← e1, ← e2]
  exact hp.map _
theorem case_tail {kd : D} {n : Nat} {ws : List Wd} {ys : List D} {a b c d e : Sl} {Q : R → List D → Prop} (hn0 : 0 < n) (hn : n ≤ 60) (hw : WdsOf n ws) (hl : ws.length ≤ 64) (hs : Strm ys) (k : ∀ d ys, CaseOf d → Strm ys → Q (.val d) ys) :
    (dRet (dTup (dCons (dVar 2) (dCons (dVar 3) (dCons (dLst (dCons (dC (.int 0)) (dCons (dOp subD (dVar 2) (dC (.int 1))) (dCons (dCall1 s_law_take (dCons (dVar 0) (dCons (dVar 2) dNil))) dNil)))) (dCons (dCall1 s_law_word (dCons (dVar 0) (dCons (dVar 2) dNil))) dNil)))))) (DE1 Q)
      [.ol ys, .sh kd, .sh (.int n), .ol (ws.map sd), a, b, c, d, e] := by
  refine ⟨_, rfl, by omega, hs, fun r ys h0 h1 hs => ⟨(show (3 : Nat) ≤ 1000 by decide), ?_⟩⟩
  refine ⟨n, rfl, by omega, hs, fun w ys hb hwl hs => ⟨(show (4 : Nat) ≤ 1000 by decide), ?_⟩⟩
  refine k _ ys ⟨n, ws, [0, (n : Int) - 1, r], w, rfl, hn, hw, hl, fun i hi => ?_, by simp, hb, hwl⟩ hs
  rcases List.mem_cons.mp hi with rfl | hi
  · omega
  · rcases List.mem_cons.mp hi with rfl | hi
    · omega
    · rw [List.mem_singleton.mp hi]; omega
theorem ok_law_case : ∀ xs ds Q, s_law_case xs ds Q → rd_law_case (DE1 Q) (start1 N_law_case.length xs ds) := by
  rintro xs ds Q ⟨rfl, hs, k⟩
  refine ⟨_, rfl, by decide, hs, fun kd ys hk0 hk1 hs => ?_⟩
  refine ⟨_, rfl, by decide, hs, fun sz ys hs0 hs1 hs => add_i ⟨Nat.zero_le _, eq_i ⟨fun _ => ?_, fun _ => ?_⟩⟩⟩
  · refine ⟨rfl, hs, fun ws ys hw hl hs => ?_⟩
    exact case_tail (n := 60) (by decide) (by decide) hw hl hs k
  · refine ⟨⟨fun _ => ?_, fun _ => ?_⟩⟩
    · refine ⟨_, rfl, by decide, hs, fun r ys h0 h1 hs => add_i ?_⟩
      obtain ⟨n, hn⟩ : ∃ n : Nat, (1 + r : Int) = n := ⟨(1 + r).toNat, by omega⟩
      have go : ∀ i : Int, i = (n : Int) → (dSeq (dAsg 4 (dCall0 s_law_bus (dCons (dVar 2) (dCons (dCall1 s_law_lots (dCons (dVar 0) (dCons (dVar 2) (dCons (dC (.int 4)) dNil)))) dNil))))
          (dSeq (dAsg 5 (dM joinD isStrD (dC (.str (Str.ofString ""))) (dCons (dLc (dgN 8) (dIt (dOp ixD (dVar 4) (dC (.int 1)))) dYes (dOp ixD (dC (.str (Str.ofString "01"))) (dCall1 s_law_take (dCons (dVar 0) (dCons (dC (.int 2)) dNil)))) [8]) dNil)))
          (dAsg 3 (dCall1 s_law_shuffled (dCons (dVar 0) (dCons (dCall0 s_law_left (dCons (dVar 4) (dCons (dVar 5) dNil))) dNil)))))) { nx := (dRet (dTup (dCons (dVar 2) (dCons (dVar 3) (dCons (dLst (dCons (dC (.int 0)) (dCons (dOp subD (dVar 2) (dC (.int 1))) (dCons (dCall1 s_law_take (dCons (dVar 0) (dCons (dVar 2) dNil))) dNil)))) (dCons (dCall1 s_law_word (dCons (dVar 0) (dCons (dVar 2) dNil))) dNil)))))) (DE1 Q), rt := (DE1 Q).rt, bk := (DE1 Q).bk, ct := (DE1 Q).ct }
          [.ol ys, .sh (.int kd), .sh (.int i), .ol [], .un, .un, .un, .un, .un] := by
        rintro _ rfl
        refine ⟨n, 4, rfl, by omega, by omega, by decide, hs, fun ls ys hls hll hs => ?_⟩
        refine ⟨n, ls, rfl, hls, by omega, fun d hd => ?_⟩
        obtain ⟨bs, rfl, hbs, hbl⟩ := hd
        refine ⟨rfl, ix_tup (by decide) rfl fun _ => ⟨by rw [line24]; omega, ⟨trivial, trivial⟩, ?_⟩⟩
        refine lc_bits (i := 7) rfl hs fun zs ys hz hb hs => ?_
        refine join_bits hz (by omega) hb fun w h1 h2 => ?_
        refine ⟨n, 0, bs, w, rfl, hbs, by omega, h2, by omega, fun ws hw hwl => ?_⟩
        refine ⟨ws.map sd, rfl, by rw [List.length_map]; omega, hs, fun us ys hp hs => ?_⟩
        obtain ⟨vs, rfl, hv⟩ := perm_sd hp
        have := hv.length_eq
        exact case_tail (n := n) (by omega) (by omega) (hw.perm hv) (by omega) hs k
      exact go _ hn
    · have go : ∀ (n : Nat) (i : Int), i = (n : Int) → 0 < n → n ≤ 60 → (dFor (dgN 6) (dRg1 (dCons (dCall1 s_law_take (dCons (dVar 0) (dCons (dC (.int 21)) dNil))) dNil)) (dSeq (dAsg 7 (dCall1 s_law_word (dCons (dVar 0) (dCons (dVar 2) dNil))))
          (dIfS (dT (dOp (inD true) (dVar 7) (dVar 3))) (dDrop (dMt appD 3 (dCons (dVar 7) dNil))) dNext))) { nx := (dRet (dTup (dCons (dVar 2) (dCons (dVar 3) (dCons (dLst (dCons (dC (.int 0)) (dCons (dOp subD (dVar 2) (dC (.int 1))) (dCons (dCall1 s_law_take (dCons (dVar 0) (dCons (dVar 2) dNil))) dNil)))) (dCons (dCall1 s_law_word (dCons (dVar 0) (dCons (dVar 2) dNil))) dNil)))))) (DE1 Q), rt := (DE1 Q).rt, bk := (DE1 Q).bk, ct := (DE1 Q).ct }
          [.ol ys, .sh (.int kd), .sh (.int i), .ol [], .un, .un, .un, .un, .un] := by
        rintro n _ rfl hn0 hn
        refine ⟨_, rfl, by decide, hs, fun q ys h0 h1 hs => ⟨by omega, by omega, ?_⟩⟩
        refine loop_inv (fun i e => ∃ (ws : List Wd) (ys : List D) (a b : Sl), WdsOf n ws ∧ ws.length ≤ i ∧ Strm ys ∧ e = [.ol ys, .sh (.int kd), .sh (.int n), .ol (ws.map sd), .un, .un, a, b, .un]) ⟨[], ys, _, _, ⟨List.nodup_nil, fun w h => (by cases h)⟩, Nat.le_refl _, hs, rfl⟩ ?_ ?_
        · rintro i x _ N hx ⟨ws, ys, a, b, hw, hl, hs, rfl⟩ next
          have hi64 : i < q.toNat := by simpa using (List.getElem?_eq_some_iff.mp hx).1
          refine ⟨n, rfl, by omega, hs, fun w ys hb hwl hs => ?_⟩
          refine in_l (Bt.ok (n := 3) hb).okD (okWords fun w hw2 => (hw.2 w hw2).1) ?_
          rw [inB_sd]
          refine ⟨fun h => ⟨by rw [line24, List.length_map]; omega, ?_⟩, fun h => ?_⟩
          · have hni : w ∉ ws := by simpa using h
            refine next _ ⟨ws ++ [w], ys, _, _, ⟨List.nodup_append.mpr ⟨hw.1, by simp, fun u hu v hv e => ?_⟩, fun u hu => ?_⟩, by simp <;> omega, hs, by rw [List.map_append]; rfl⟩
            · rw [List.mem_singleton.mp hv] at e
              exact hni (e ▸ hu)
            · rcases List.mem_append.mp hu with hu | hu
              · exact hw.2 u hu
              · rw [List.mem_singleton.mp hu]; exact ⟨hb, hwl⟩
          · exact next _ ⟨ws, ys, _, _, hw, by omega, hs, rfl⟩
        · rintro _ ⟨ws, ys, a, b, hw, hl, hs, rfl⟩
          rw [rng_length] at hl
          exact case_tail (n := n) hn0 hn hw (by omega) hs k
      refine ⟨⟨fun _ => ⟨?_⟩, fun _ => ?_⟩⟩
      · exact go (if 4 < (1 + sz) then 4 else (1 + sz)).toNat _ (by split <;> omega) (by split <;> omega) (by split <;> omega)
      · exact go (1 + sz).toNat _ (by omega) (by omega) (by omega)
theorem ok_law_pairs : ∀ ds Q, s_law_pairs ds Q → rd_law_pairs (DE0 Q) (start0 N_law_pairs.length ds) := by
  rintro ds Q ⟨n, ws, i, rfl, hn, hw, hl, hi, k⟩
  intro _
  refine loop_inv (fun j e => ∃ b, e = [.sh (.list (ws.map sd)), .sh (.int i), .sh (.int ((ws.take j).filter fun w => decide (w[i]? = some 48 ∧ stuckW i 49 w ∈ ws)).length), b]) ⟨_, rfl⟩ ?_ ?_
  · rintro j x _ N hx ⟨b, rfl⟩ next
    rw [List.getElem?_map, Option.map_eq_some_iff] at hx
    obtain ⟨w, hw2, rfl⟩ := hx
    obtain ⟨hb, hwl⟩ := hw w (List.mem_of_getElem? hw2)
    obtain ⟨c, hc⟩ := get_of (l := w) (i := i) (by omega)
    have e1 : ws.take (j + 1) = ws.take j ++ [w] := by rw [List.take_add_one, hw2]; rfl
    have stuck_bt : Bt (stuckW i 49 w) := ((hb.take i).app (Bt.cons (.inr rfl) fun c hc => (by cases hc))).app (hb.drop _)
    have no : (¬ (w[i]? = some 48 ∧ stuckW i 49 w ∈ ws)) → N [.sh (.list (ws.map sd)), .sh (.int i), .sh (.int ((ws.take j).filter fun w => decide (w[i]? = some 48 ∧ stuckW i 49 w ∈ ws)).length), .sh (sd w)] := fun h => by
      refine next _ ⟨.sh (sd w), ?_⟩
      rw [e1, List.filter_append]
      simp only [List.filter_cons, List.filter_nil, decide_eq_false h]
      simp
    refine ix_sd (c := c) (by omega) (by omega) (by simpa using hc) (eq_sd (b := [48]) ⟨fun h => ?_, fun h => br_f (no fun z => ?_)⟩)
    · have hc48 : c = 48 := by simpa using h
      subst hc48
      refine sl_to (by omega) (by omega) (add_sd (b := [49]) (by simp <;> omega) (add_i (sl_from (by omega) (by omega) (add_sd (by simp <;> omega) ?_))))
      refine in_l (Bt.ok (n := 3) ?_).okD (okWords fun w h => (hw w h).1) ?_
      · exact stuck_bt
      rw [inB_sd]
      refine ⟨fun h => add_i ?_, fun h => no fun z => ?_⟩
      · have hm : stuckW i 49 w ∈ ws := of_decide_eq_true h
        refine next _ ⟨.sh (sd w), ?_⟩
        rw [e1, List.filter_append]
        simp only [List.filter_cons, List.filter_nil, decide_eq_true (show w[i]? = some 48 ∧ stuckW i 49 w ∈ ws from ⟨hc, hm⟩)]
        simp
      · exact absurd z.2 (of_decide_eq_false h)
    · have h := of_decide_eq_false h
      rw [hc] at z
      exact h (by rw [Option.some.inj z.1])
  · rintro _ ⟨b, rfl⟩
    rw [List.length_map, List.take_length]
    exact k

end HD


set_option Elab.async false
set_option linter.all false
set_option maxRecDepth 100000
set_option maxHeartbeats 4000000
namespace HD
open PySem PySem.Spec PyProof.Rows L2
local macro_rules | `(tactic| walk_at "w") => `(tactic| conv => whnf)
local macro_rules | `(tactic| walk_at "ar") => `(tactic| (try dsimp only) <;> first | omega | decide | assumption)
local macro_rules | `(tactic| walk_at "bk") => `(tactic| first | rfl | (refine Eq.trans (b := true) ?_ rfl; rfl))
/-! ### the groups: one way only, and how many -/
theorem enc_sd {u v : Wd} (h : enc (sd u) = enc (sd v)) : u = v := by
  simp only [sd, enc] at h
  have h := List.append_cancel_right (List.cons.inj h).2
  exact (List.map_inj_right (fun a b e => by omega)).mp h
theorem ltK_anti {u v : Wd} (h : ltK (sd u) (sd v) = false) (h2 : ltK (sd v) (sd u) = false) : u = v := by
  have a := of_decide_eq_false h
  have b := of_decide_eq_false h2
  exact enc_sd (List.le_antisymm (List.not_lt.mp b) (List.not_lt.mp a))
theorem sort_uniq {us vs : List Wd} (h1 : SrtO.Srtd ltK (us.map sd)) (h2 : SrtO.Srtd ltK (vs.map sd)) (hp : us.Perm vs) : us = vs := by
  refine List.Perm.eq_of_pairwise (le := fun a b => ltK (sd b) (sd a) = false) (fun a b _ _ h h' => ltK_anti h' h) (List.pairwise_map.mp h1) (List.pairwise_map.mp h2) hp
theorem sd_perm {us vs : List Wd} (h : (us.map sd).Perm (vs.map sd)) : us.Perm vs := by
  obtain ⟨ws, h1, h2⟩ := perm_sd h
  have : us = ws := (List.map_inj_right (fun _ _ e => sd_inj e)).mp h1
  rw [this]
  exact h2
theorem GrpOf.uniq {ws : List Wd} {i c : Nat} {d e : D} (h : GrpOf ws i c d) (h' : GrpOf ws i c e) : d = e := by
  obtain ⟨ss, ks, ⟨a1, a2⟩, ⟨kk, b1, b2, b3, b4⟩, rfl⟩ := h
  obtain ⟨ss', ks', ⟨a1', a2'⟩, ⟨kk', b1', b2', b3', b4'⟩, rfl⟩ := h'
  have e1 : ss = ss' := sort_uniq a1 a1' ((sd_perm a2).trans (sd_perm a2').symm)
  have e2 : kk.Perm kk' := (List.perm_ext_iff_of_nodup b1 b1').mpr fun k => by rw [b2, b2']
  have e3 : ks = ks' := sort_uniq b3 b3' ((sd_perm b4).trans (e2.trans (sd_perm b4').symm))
  rw [e1, e3]
theorem stuck_take {i c : Nat} {w : Wd} (h : i < w.length) : (stuckW i c w).take i = w.take i := by
  unfold stuckW
  rw [List.append_assoc, List.take_append_of_le_length (by simp; omega), List.take_take, Nat.min_self]
theorem stuck_drop {i c : Nat} {w : Wd} (h : i < w.length) : (stuckW i c w).drop (i + 1) = w.drop (i + 1) := by
  unfold stuckW
  have e : (w.take i ++ [c]).length = i + 1 := by simp; omega
  rw [← e, List.drop_left, e]
theorem stuck_get {i c : Nat} {w : Wd} (h : i < w.length) : (stuckW i c w)[i]? = some c := by
  unfold stuckW
  have e : (w.take i).length = i := by simp; omega
  rw [List.append_assoc, List.getElem?_append_right (by omega), e, Nat.sub_self]
  rfl
theorem stuck_self {i c : Nat} {w : Wd} (h : w[i]? = some c) : stuckW i c w = w := by
  obtain ⟨hl, hc⟩ := List.getElem?_eq_some_iff.mp h
  unfold stuckW
  rw [List.append_assoc, ← hc, List.singleton_append, ← List.drop_eq_getElem_cons hl, List.take_append_drop]
theorem stuck_stuck {i c b : Nat} {w : Wd} (h : i < w.length) : stuckW i c (stuckW i b w) = stuckW i c w := by
  have e1 := stuck_take (c := b) h
  have e2 := stuck_drop (c := b) h
  unfold stuckW at e1 e2 ⊢
  rw [e1, e2]
theorem stuck_bt {i c : Nat} {w : Wd} (hb : Bt w) (hc : c = 48 ∨ c = 49) : Bt (stuckW i c w) := ((hb.take i).app (Bt.cons hc fun c hc => (by cases hc))).app (hb.drop _)
theorem stuck_len {i c : Nat} {w : Wd} (h : i < w.length) : (stuckW i c w).length = w.length := by
  unfold stuckW
  simp
  omega
theorem stuck_inj {n i c : Nat} {w v : Wd} (hw : w.length = n) (hv : v.length = n) (hi : i < n) (h : stuckW i c w = stuckW i c v) (b : Nat) : stuckW i b w = stuckW i b v := by
  have := congrArg (stuckW i b) h
  rwa [stuck_stuck (by omega), stuck_stuck (by omega)] at this
theorem keys_len {n i c : Nat} {ws kk : List Wd} (hd : ws.Nodup) (hw : ∀ w ∈ ws, Bt w ∧ w.length = n) (hi : i < n) (b1 : kk.Nodup) (b2 : ∀ k, k ∈ kk ↔ ∃ w ∈ ws, stuckW i c w = k) : kk.length + pairsN ws i = ws.length := by
  let p := fun w : Wd => decide (w[i]? = some 48 ∧ stuckW i 49 w ∈ ws)
  have e0 : (ws.filter p).length + (ws.filter fun w => !p w).length = ws.length := by
    rw [← List.length_append]
    exact (List.filter_append_perm p ws).length_eq
  have hl : ∀ w ∈ ws, i < w.length := fun w h => by rw [(hw w h).2]; exact hi
  have e1 : kk.Perm ((ws.filter fun w => !p w).map (stuckW i c)) := by
    refine (List.perm_ext_iff_of_nodup b1 ?_).mpr fun k => ?_
    · refine List.pairwise_map.mpr (List.Pairwise.imp_of_mem ?_ (hd.filter _))
      intro u v hu hv hne he
      obtain ⟨hu1, hu2⟩ := List.mem_filter.mp hu
      obtain ⟨hv1, hv2⟩ := List.mem_filter.mp hv
      have hu2 : ¬ (u[i]? = some 48 ∧ stuckW i 49 u ∈ ws) := by
        simp only [p, Bool.not_eq_true', decide_eq_false_iff_not] at hu2
        exact hu2
      have hv2 : ¬ (v[i]? = some 48 ∧ stuckW i 49 v ∈ ws) := by
        simp only [p, Bool.not_eq_true', decide_eq_false_iff_not] at hv2
        exact hv2
      obtain ⟨a, ha⟩ := get_of (l := u) (i := i) (hl u hu1)
      obtain ⟨b, hb⟩ := get_of (l := v) (i := i) (hl v hv1)
      have inj := stuck_inj (hw u hu1).2 (hw v hv1).2 hi he
      have sa := stuck_self ha
      have sb := stuck_self hb
      rcases (hw u hu1).1.get ha with rfl | rfl <;> rcases (hw v hv1).1.get hb with rfl | rfl
      · exact hne (by rw [← sa, ← sb, inj])
      · exact hu2 ⟨ha, by rw [inj, sb]; exact hv1⟩
      · exact hv2 ⟨hb, by rw [← inj, sa]; exact hu1⟩
      · exact hne (by rw [← sa, ← sb, inj])
    · rw [b2, List.mem_map]
      constructor
      · rintro ⟨w, hw1, rfl⟩
        by_cases q : w[i]? = some 48 ∧ stuckW i 49 w ∈ ws
        · refine ⟨stuckW i 49 w, List.mem_filter.mpr ⟨q.2, ?_⟩, stuck_stuck (hl w hw1)⟩
          simp [p, stuck_get (hl w hw1)]
        · exact ⟨w, List.mem_filter.mpr ⟨hw1, by
            simp only [p, Bool.not_eq_true', decide_eq_false_iff_not]
            exact q⟩, rfl⟩
      · rintro ⟨w, hw1, rfl⟩
        exact ⟨w, (List.mem_filter.mp hw1).1, rfl⟩
  have e2 := e1.length_eq
  rw [List.length_map] at e2
  have e3 : pairsN ws i = (ws.filter p).length := rfl
  omega
theorem GrpOf.facts {n i c : Nat} {ws : List Wd} {d : D} (h : GrpOf ws i c d) (hd : ws.Nodup) (hw : ∀ w ∈ ws, Bt w ∧ w.length = n) (hn : n ≤ 60) (hl : ws.length ≤ 64) (hi : i < n) :
    okR d ∧ okD d ∧ ∃ ds, d = .tuple ds ∧ ds.length + pairsN ws i = ws.length := by
  obtain ⟨ss, ks, ⟨a1, a2⟩, ⟨kk, b1, b2, b3, b4⟩, rfl⟩ := h
  have hs := sd_perm a2
  have hk := sd_perm b4
  have kl := keys_len hd hw hi b1 b2
  have e1 := hs.length_eq
  have e2 := hk.length_eq
  have mem : ∀ k : Wd, ∀ w ∈ (ss.filter fun w => decide (stuckW i c w = k)), w ∈ ws := fun k w h => hs.mem_iff.mp (List.mem_filter.mp h).1
  have le : ∀ k : Wd, (ss.filter fun w => decide (stuckW i c w = k)).length ≤ 64 := fun k => Nat.le_trans (List.length_filter_le _ _) (by omega)
  refine ⟨Sw.okR (n := 3) (l := 64 * ((64 * (602 + 2) + 3) + 2) + 3) (Sw.tup (fun d hd => ?_) (by rw [List.length_map]; omega)), Ok.okD (n := 3) (Ok.tup fun d hd => ?_), _, rfl, by rw [List.length_map]; omega⟩
  · obtain ⟨k, _, rfl⟩ := List.mem_map.mp hd
    refine Sw.tup (fun d hd => ?_) (by rw [List.length_map]; exact le k)
    obtain ⟨w, h1, rfl⟩ := List.mem_map.mp hd
    have h2 := hw w (mem k w h1)
    exact (h2.1.sw (m := 60) (by omega))
  · obtain ⟨k, _, rfl⟩ := List.mem_map.mp hd
    refine Ok.tup fun d hd => ?_
    obtain ⟨w, h1, rfl⟩ := List.mem_map.mp hd
    exact (hw w (mem k w h1)).1.ok
theorem ok_law_right : ∀ ds Q, s_law_right ds Q → rd_law_right (DE0 Q) (start0 N_law_right.length ds) := by
  rintro ds Q ⟨_, rfl, ⟨n, ws, is, o, rfl, hn, hw, hl, hi, hil, hb, hol⟩, k⟩
  let cs : D := .tuple [.int n, .list (ws.map sd), .list (is.map PyData.int), sd o]
  refine ⟨rfl, fun _ => ?_⟩
  refine loop_inv (fun j e => ∃ a b c d, e = [.sh cs, .sh (.int n), .sh (.list (ws.map sd)), .sh (.list (is.map PyData.int)), .sh (sd o), a, b, c, d]) ⟨_, _, _, _, rfl⟩ ?_ ?_
  · rintro j x _ N hx ⟨a, b, c, d, rfl⟩ next
    rw [List.getElem?_map, Option.map_eq_some_iff] at hx
    obtain ⟨i, hi2, rfl⟩ := hx
    obtain ⟨i0, i1⟩ := hi i (List.mem_of_getElem? hi2)
    obtain ⟨i, rfl⟩ : ∃ m : Nat, i = m := ⟨i.toNat, by omega⟩
    have hin : i < n := by omega
    intro _
    refine loop_inv (fun j e => ∃ b c d, e = [.sh cs, .sh (.int n), .sh (.list (ws.map sd)), .sh (.list (is.map PyData.int)), .sh (sd o), .sh (.int i), b, c, d]) ⟨_, _, _, rfl⟩ ?_ ?_
    · rintro j x _ N hx ⟨b, c, d, rfl⟩ next
      obtain ⟨s, hs, rfl⟩ : ∃ s, (s = 48 ∨ s = 49) ∧ x = sd [s] := by
        have hx : ([48, 49].map fun c => sd [c])[j]? = some x := hx
        rw [List.getElem?_map, Option.map_eq_some_iff] at hx
        obtain ⟨s, hs, rfl⟩ := hx
        exact ⟨s, by simpa using List.mem_of_getElem? hs, rfl⟩
      refine ⟨n, ws, i, s, rfl, hn, hw.2, hl, hin, hs, fun told ht => ?_⟩
      refine ⟨n, ws, i, s, rfl, hn, hw.2, hl, hin, hs, fun told' ht' => ?_⟩
      have e := ht'.uniq ht
      subst e
      obtain ⟨f1, f2, ts, rfl, f3⟩ := ht.facts hw.1 hw.2 hn hl hin
      refine ⟨_, rfl, f1, f2, br_f ?_⟩
      refine ⟨⟨n, ws, i, rfl, hn, hw.2, hl, hin, ⟨ne_i ⟨fun h => ?_, fun _ => ?_⟩⟩⟩⟩
      · have h : ¬ ((ts.length : Int) = (ws.length : Int) - (pairsN ws i : Int)) := by simpa using h
        omega
      have cut : cutD (ws.map sd) none (some 8) = (ws.take 8).map sd := by
        unfold cutD
        have e1 : HT.sIx (ws.map sd).length 0 none = 0 := rfl
        have e2 : HT.sIx (ws.map sd).length (ws.map sd).length (some 8) = min 8 ws.length := by rw [List.length_map]; exact HT.sIx_nat _ _ 8
        rw [e1, e2, List.drop_zero, Nat.sub_zero, ← List.map_take]
        rw [show ws.take (min 8 ws.length) = ws.take 8 by rw [← List.take_take, List.take_length]]
      refine sl_l ?_
      refine ⟨(show (1 : Nat) ≤ 1000 by decide), ?_⟩
      refine add_l (a := cutD (ws.map sd) none (some 8)) (b := [sd o]) (by rw [cut]; simp <;> omega) fun _ => ?_
      rw [cut]
      have e3 : (ws.take 8).map sd ++ [sd o] = (ws.take 8 ++ [o]).map sd := by rw [List.map_append]; rfl
      rw [e3]
      refine loop_inv (fun j e => ∃ d, e = [.sh cs, .sh (.int n), .sh (.list (ws.map sd)), .sh (.list (is.map PyData.int)), .sh (sd o), .sh (.int i), .sh (sd [s]), .sh (.tuple ts), d]) ⟨_, rfl⟩ ?_ ?_
      · rintro j x _ N hx ⟨d, rfl⟩ next
        rw [List.getElem?_map, Option.map_eq_some_iff] at hx
        obtain ⟨w, hw2, rfl⟩ := hx
        obtain ⟨wb, wl⟩ : Bt w ∧ w.length = n := by
          rcases List.mem_append.mp (List.mem_of_getElem? hw2) with h | h
          · exact hw.2 w (List.mem_of_mem_take h)
          · rw [List.mem_singleton.mp h]; exact ⟨hb, hol⟩
        refine ⟨w, i, s, rfl, by omega, by omega, ?_⟩
        refine sl_to (by omega) (by omega) (add_sd (b := [s]) (by simp <;> omega) (add_i (sl_from (by omega) (by omega) (add_sd (by simp <;> omega) ?_))))
        have sb := stuck_bt (i := i) wb hs
        have sl := stuck_len (c := s) (show i < w.length by omega)
        refine ⟨sd (stuckW i s w), rfl, (sb.sw (n := 1) (m := 60) (by omega)).okR, (sb.ok (n := 1)).okD, br_f ?_⟩
        exact next _ ⟨_, rfl⟩
      · rintro _ ⟨d, rfl⟩
        exact next _ ⟨_, _, _, rfl⟩
    · rintro _ ⟨b, c, d, rfl⟩
      exact next _ ⟨_, _, _, _, rfl⟩
  · rintro _ ⟨a, b, c, d, rfl⟩
    exact k

end HD


set_option Elab.async false
set_option linter.all false
set_option maxRecDepth 100000
set_option maxHeartbeats 4000000
namespace HD
open PySem PySem.Spec PyProof.Rows L2
local macro_rules | `(tactic| walk_at "w") => `(tactic| conv => whnf)
local macro_rules | `(tactic| walk_at "ar") => `(tactic| (try dsimp only) <;> first | omega | decide | assumption)
local macro_rules | `(tactic| walk_at "bk") => `(tactic| first | rfl | (refine Eq.trans (b := true) ?_ rfl; rfl))
def IntsD (fs : List D) : Prop := ∀ d ∈ fs, ∃ i, d = .int i
theorem IntsD.app {fs : List D} {i : Int} (h : IntsD fs) : IntsD (fs ++ [.int i]) := fun d hd => by
  rcases List.mem_append.mp hd with hd | hd
  · exact h d hd
  · rw [List.mem_singleton.mp hd]; exact ⟨_, rfl⟩
theorem app_room {fs : List D} (h : fs.length ≤ 100000) : fs.length < sizeLine := by rw [line24]; omega
theorem m21 : (0 : Int) < 2147483647 := by decide
theorem m10 : (0 : Int) < 1000 := by decide
theorem ok_law_stream : ∀ ds Q, s_law_stream ds Q → rd_law_stream (DE0 Q) (start0 N_law_stream.length ds) := by
  rintro ds Q ⟨ns, rfl, k⟩
  refine ⟨Nat.zero_le _, ?_⟩
  refine ⟨⟨⟨?_, ?_, ?_⟩⟩⟩
  · split <;> omega
  · split <;> omega
  refine loop_inv (fun i e => ∃ (fs : List D) (mx : Int) (a b c d : Sl), IntsD fs ∧ fs.length ≤ 60 * i ∧ e = [.sh (.list (ns.map PyData.int)), .ol fs, .sh (.int mx), a, b, c, d]) ⟨[], _, _, _, _, _, fun x hx => (by cases hx), Nat.zero_le _, rfl⟩ ?_ ?_
  · rintro i x _ N hx ⟨fs, mx, a, b, c, d, hf, hl, rfl⟩ next
    have hlt := (List.getElem?_eq_some_iff.mp hx).1
    rw [rng_length] at hlt
    rw [rng_get hlt] at hx
    cases hx
    have hi : i < 63 ∧ i < ns.length := by
      rw [List.length_map] at hlt
      split at hlt <;> omega
    obtain ⟨z, hz⟩ := get_of (l := ns) (i := i) hi.2
    refine ix_list (d := .int z) (by omega) (by simp [hz]) ⟨⟨?_⟩⟩
    refine ⟨.inr (by decide), ⟨.inr (by decide), add_i (add_i (add_i ⟨⟨m21, ?_⟩⟩))⟩⟩
    refine ⟨⟨by decide, by decide, by decide⟩, ⟨⟨fun _ => ?_, fun _ => ?_⟩⟩⟩
    · refine ⟨by decide, by decide, ?_⟩
      refine loop_inv (fun j e => ∃ (fs : List D) (cl : Int) (mx : Int) (a c d : Sl), IntsD fs ∧ fs.length ≤ 60 * i + j ∧ e = [.sh (.list (ns.map PyData.int)), .ol fs, .sh (.int mx), a, .sh (.int cl), c, d]) ⟨fs, _, _, _, _, _, hf, hl, rfl⟩ ?_ ?_
      · rintro j x _ N hx ⟨fs, cl, mx, a, c, d, hf, hl, rfl⟩ next
        have hj : j < 60 := by
          have := (List.getElem?_eq_some_iff.mp hx).1
          rw [rng_length] at this
          exact this
        refine ⟨fun _ => ?_, fun _ => next _ ⟨fs, _, _, _, _, _, hf, by omega, rfl⟩⟩
        refine ⟨⟨m10, ⟨app_room (by omega), ⟨⟨by decide, by decide⟩, ?_⟩⟩⟩⟩
        exact next _ ⟨_, _, _, _, _, _, hf.app, by simp <;> omega, rfl⟩
      · rintro _ ⟨fs, cl, mx, a, c, d, hf, hl, rfl⟩
        rw [rng_length] at hl
        exact next _ ⟨fs, _, _, _, _, _, hf, by have : (60 : Int).toNat = 60 := rfl; omega, rfl⟩
    · refine ⟨by decide, by decide, ?_⟩
      refine loop_inv (fun j e => ∃ (fs : List D) (cl mx ag : Int) (a c : Sl), IntsD fs ∧ fs.length ≤ 60 * i + j ∧ e = [.sh (.list (ns.map PyData.int)), .ol fs, .sh (.int mx), a, .sh (.int cl), c, .sh (.int ag)]) ⟨fs, _, _, _, _, _, hf, hl, rfl⟩ ?_ ?_
      · rintro j x _ N hx ⟨fs, cl, mx, ag, a, c, hf, hl, rfl⟩ next
        have hj := (List.getElem?_eq_some_iff.mp hx).1
        rw [rng_length] at hj
        rw [rng_get hj] at hx
        cases hx
        have hj : j < 4 := hj
        refine ⟨.inr (by decide), add_i (add_i ⟨⟨m21, ?_⟩⟩)⟩
        refine ⟨⟨by decide, by decide⟩, ⟨m10, ⟨app_room (by omega), ?_⟩⟩⟩
        exact next _ ⟨_, _, _, _, _, _, hf.app, by simp <;> omega, rfl⟩
      · rintro _ ⟨fs, cl, mx, ag, a, c, hf, hl, rfl⟩
        rw [rng_length] at hl
        exact next _ ⟨fs, _, _, _, _, _, hf, by have : (4 : Int).toNat = 4 := rfl; omega, rfl⟩
  · rintro _ ⟨fs, mx, a, b, c, d, hf, hl, rfl⟩
    rw [rng_length, List.length_map] at hl
    have hl : fs.length ≤ 60 * 63 := by split at hl <;> omega
    refine ⟨⟨(show (1 : Nat) ≤ 1000 by decide), ?_⟩⟩
    refine add_l (a := [.int mx]) (b := fs.reverse) (by simp <;> omega) (k _ ⟨by simp, fun x hx => ?_⟩)
    rcases List.mem_append.mp hx with hx | hx
    · rw [List.mem_singleton.mp hx]; exact ⟨_, rfl⟩
    · exact hf x (List.mem_reverse.mp hx)
theorem oklaw : ∀ ds Q, slaw ds Q → rdlaw (DE0 Q) (start0 Nlaw.length ds) := by
  rintro ds Q ⟨ns, rfl, k⟩
  refine ⟨ns, rfl, fun ys hs => ?_⟩
  refine ⟨rfl, hs, fun d ys hd hs => ?_⟩
  refine ⟨rfl, hs, fun d2 ys hd2 hs => ?_⟩
  refine ⟨d, rfl, hd, br_t ?_⟩
  refine ⟨d2, rfl, hd2, br_t ?_⟩
  exact ⟨d, rfl, hd, k⟩

end HD


set_option Elab.async false
set_option linter.all false
set_option maxRecDepth 100000
set_option maxHeartbeats 4000000
namespace HD
open PySem PySem.Spec PyProof.Rows L2
local macro_rules | `(tactic| walk_at "w") => `(tactic| conv => whnf)
local macro_rules | `(tactic| walk_at "ar") => `(tactic| (try dsimp only) <;> first | omega | decide | assumption)
local macro_rules | `(tactic| walk_at "bk") => `(tactic| first | rfl | (refine Eq.trans (b := true) ?_ rfl; rfl))
def rdG (mk : List D → D) (n : Nat) : TSD := fun De e => ∃ (m : Nat) (ws : List Wd) (i c : Nat), e = start0 n [mk (ws.map sd), .int i, sd [c]] ∧ m ≤ 60 ∧ (∀ w ∈ ws, Bt w ∧ w.length = m) ∧ ws.length ≤ 64 ∧ i < m ∧ (c = 48 ∨ c = 49) ∧ ∀ d, GrpOf ws i c d → ∀ e', De.rt (.val d) e'
theorem okstuck_groups : ∀ ds Q, sstuck_groups ds Q → rdG .tuple 6 (DE0 Q) (start0 6 ds) := by
  rintro ds Q ⟨m, ws, i, c, rfl, h1, h2, h3, h4, h5, k⟩
  exact ⟨m, ws, i, c, rfl, h1, h2, h3, h4, h5, fun d hd e' => k d hd⟩
theorem ok_law_groups : ∀ ds Q, s_law_groups ds Q → rdG .list 7 (DE0 Q) (start0 7 ds) := by
  rintro ds Q ⟨m, ws, i, c, rfl, h1, h2, h3, h4, h5, k⟩
  exact ⟨m, ws, i, c, rfl, h1, h2, h3, h4, h5, fun d hd e' => k d hd⟩
section
variable {K : PySem.W.Frag} {c0 : C0} {G H : Hp} {σ : L2.St}
/-- what both defs do, whatever the step's own way -/
theorem grp_all {mk : List D → D} {n v : Nat} {tb : TS} {E : Ends} (hmk : mk = .tuple ∨ mk = .list) (hio : c0.ios = []) (hn : n = 6 ∨ n = 7) (hv : v + 1 = n)
    (hb : ∀ (d0 : D) (i m c : Nat) (p : Addr) (g : Gp) (r : List Sl) (G : Hp) (σ : L2.St) (H : Hp) (w : Wd) (D2 : Ends), Bt w ∧ w.length = m → m ≤ 60 → i < m → g.length ≤ 500 ∧ (∀ t ∈ g, t.2.2.length ≤ 500) → 4 + r.length = n → r[0]? = some (.sh (sd w)) → StG K c0 p g (.sh d0 :: .sh (.int i) :: .sh (sd [c]) :: .un :: r) G σ H →
      (∀ g' r' G' σ' H', Stp (stuckW i c) g w g' → 4 + r'.length = n → Ex G G' → StG K c0 p g' (.sh d0 :: .sh (.int i) :: .sh (sd [c]) :: .un :: r') G' σ' H' → D2.nx σ' H') → tb D2 σ H)
    (h : TofS K c0 (rdG mk n) E σ H) : tSeq (tAsg tDNewK (gName 3)) (tSeq (tFor (XofI K [] (dIt (dB sortedD (dCons (dVar 0) dNil)))) (gName 4) tb) (tRet (tGrp K v))) E σ H := by
  obtain ⟨e, G, De, S, ⟨m, ws, i, c, rfl, h1, h2, h3, h4, h5, k⟩, l⟩ := h
  intro p hp
  have n3 : 3 ∉ c0.ios := by rw [hio]; exact List.not_mem_nil
  have hlen : σ.length = n := by
    rw [← S.len]
    rcases hn with rfl | rfl <;> rfl
  have S1 : SR K (c0.withP (pG c0.pins p [])) _ G (σ.set 3 (some (.ref p))) (upd H p (.dK [])) := (S.setUn (i := 3) (o := some (.ref p)) n3).dopin (o := .dK []) hp
  have S2 : StG K c0 p [] ((start0 n [mk (ws.map sd), .int i, sd [c]]).set 3 .un) G (σ.set 3 (some (.ref p))) (upd H p (.dK [])) := ⟨S1, List.getElem?_set_self (by omega), List.nodup_nil, Nat.zero_le _⟩
  obtain ⟨r0, hr0, he0⟩ : ∃ r0, 4 + r0.length = n ∧ (start0 n [mk (ws.map sd), .int i, sd [c]]).set 3 .un = .sh (mk (ws.map sd)) :: .sh (.int i) :: .sh (sd [c]) :: .un :: r0 := by
    rcases hn with rfl | rfl
    · exact ⟨[.un, .un], rfl, rfl⟩
    · exact ⟨[.un, .un, .un], rfl, rfl⟩
  rw [he0] at S2
  refine groups_for (f := stuckW i c) (SS := fun ss => sortW (ss.map sd) ws) (Wp := fun w => Bt w ∧ w.length = m) (EO := fun e => ∃ r, 4 + r.length = n ∧ e = .sh (mk (ws.map sd)) :: .sh (.int i) :: .sh (sd [c]) :: .un :: r) hio S2 ⟨r0, hr0, rfl⟩ ?_ ?_ ?_ ?_ ?_ ?_
  · rintro ss ⟨_, hp⟩
    have hp := sd_perm hp
    exact ⟨by rw [hp.length_eq]; omega, fun w hw => h2 w (hp.mem_iff.mp hw)⟩
  · intro P hP
    have key : ∀ es, SrtO.Srtd ltK es → SrtO.Stb ltK es (ws.map sd) → P es (.sh (mk (ws.map sd)) :: .sh (.int i) :: .sh (sd [c]) :: .un :: r0) := fun es e1 e2 => by
      obtain ⟨ss, rfl, hss⟩ := perm_sd e2.perm
      exact hP ss ⟨e1, e2.perm⟩
    have srt : Sortable (ws.map sd) := .sStrs (ws.map SX.S) (by rw [List.map_map]; rfl) fun d hd => by
      obtain ⟨w, hw, rfl⟩ := List.mem_map.mp hd
      exact ((h2 w hw).1.ok (n := 1)).1
    rcases hmk with rfl | rfl
    · exact sort_t srt fun es e1 e2 _ => key es e1 e2
    · exact sort_l srt fun es e1 e2 _ => key es e1 e2
  · rintro e w ⟨r, hr, rfl⟩
    exact ⟨r.set 0 (.sh (sd w)), by simpa using hr, rfl⟩
  · rintro g e G2 σ2 H2 w D2 hw hg ⟨r, hr, rfl⟩ h4' S3 nx
    exact hb _ i m c p g r G2 σ2 H2 w D2 hw h1 h4 hg hr h4' S3 fun g' r' G' σ' H' st hr' ex S4 => nx g' _ G' σ' H' st ⟨r', hr', rfl⟩ ex S4
  · rintro e ⟨r, hr, rfl⟩
    simp
    rcases hn with rfl | rfl <;> omega
  · rintro ss g e' G2 σ2 H2 hS hg ⟨r, hr, rfl⟩ ex S3
    have hsp := sd_perm hS.2
    refine grp_end (el := fun k => ss.filter fun w => decide (stuckW i c w = k)) hio (by omega) (by simp; omega) S3 (fun t ht => ?_) (fun t ht => (hg.a t ht).1) fun ks x e' G' σ' H' q1 q2 ex2 S4 dp => ?_
    · obtain ⟨_, w, hw, e⟩ := hg.a t ht
      rw [← e]
      exact (stuck_bt (h2 w (hsp.mem_iff.mp hw)).1 h5).asc
    · refine l.rt (.val _) e' x G' σ' H' (k _ ⟨ss, ks, hS, ⟨g.map (·.1), S3.k, fun k => ?_, q1, q2⟩, rfl⟩ e') (ex.trans ex2) S4 dp
      constructor
      · intro hk
        obtain ⟨t, ht, rfl⟩ := List.mem_map.mp hk
        obtain ⟨_, w, hw, e⟩ := hg.a t ht
        exact ⟨w, hsp.mem_iff.mp hw, e⟩
      · rintro ⟨w, hw, rfl⟩
        obtain ⟨t, ht, e⟩ := hg.b w (hsp.mem_iff.mpr hw)
        exact List.mem_map.mpr ⟨t, ht, e⟩
end

theorem RoomG.u1 {k : Nat} {A : Around} (h : RoomG k A) : A.units + 1 < cLine := by
  have := h.u64
  omega
theorem grp_a {K : PySem.W.Frag} {c0 : C0} (hio : c0.ios = []) (sk : TED) (hsk : ∀ (d0 : D) (i m c : Nat) (w : Wd) (r : List Sl) (P : R → List Sl → Prop), Bt w ∧ w.length = m → m ≤ 60 → i < m → P (.val (sd (stuckW i c w))) (.sh d0 :: .sh (.int i) :: .sh (sd [c]) :: .un :: .sh (sd w) :: r) → sk (.sh d0 :: .sh (.int i) :: .sh (sd [c]) :: .un :: .sh (sd w) :: r) P)
    {n : Nat} (d0 : D) (i m c : Nat) (p : Addr) (g : Gp) (r : List Sl) (G : Hp) (σ : L2.St) (H : Hp) (w : Wd) (Q : VK) (hw : Bt w ∧ w.length = m) (hm : m ≤ 60) (hi : i < m) (hg : g.length ≤ 500 ∧ (∀ t ∈ g, t.2.2.length ≤ 500)) (hr0 : r[0]? = some (.sh (sd w))) (S : StG K c0 p g (.sh d0 :: .sh (.int i) :: .sh (sd [c]) :: .un :: r) G σ H)
    (nx : ∀ a l g1 g2 G' H', (g = g1 ++ (stuckW i c w, a, l) :: g2 ∨ (g = g1 ∧ g2 = [] ∧ l = [] ∧ ∀ u ∈ g, u.1 ≠ stuckW i c w)) → Ex G G' → StG K c0 p (g1 ++ (stuckW i c w, a, l) :: g2) (.sh d0 :: .sh (.int i) :: .sh (sd [c]) :: .un :: r) G' σ H' → l.length ≤ 500 → Q (.ref a) H') :
    tDSetd (tVar 3) (XofE K [] sk) (tLst tNil) σ H Q := by
  obtain ⟨r, rfl⟩ : ∃ r', r = .sh (sd w) :: r' := by
    cases r with
    | nil => cases hr0
    | cons s r =>
      cases hr0
      exact ⟨r, rfl⟩
  refine setd_step (k := stuckW i c w) S hio (by omega) (fun P hP => hsk d0 i m c w r P hw hm hi hP) fun g1 a l g2 G' H' hc ex S1 => nx a l g1 g2 G' H' hc ex S1 ?_
  rcases hc with rfl | ⟨_, _, rfl, _⟩
  · exact hg.2 _ (List.mem_append_right _ List.mem_cons_self)
  · exact Nat.zero_le _
theorem sig4 {K : PySem.W.Frag} {c0 : C0} {p : Addr} {g : Gp} {a b c : Sl} {r : List Sl} {G H : Hp} {σ : L2.St} {w : Wd} (S : StG K c0 p g (a :: b :: c :: .un :: r) G σ H) (hr0 : r[0]? = some (.sh (sd w))) : σ[4]? = some (some (vS w)) := by
  obtain ⟨v, h1, h2⟩ := S.s.sh 4 (sd w) hr0
  have : v = vS w := by
    cases (show Dp K G v (sd w) from h2)
    rfl
  rw [h1, this]
section
variable {P : Program} {w : World} {K : PySem.W.Frag} {mg : Str → Option Value} {base : Heap}
abbrev Nstuck_groups : List Str := [Str.ofString "words", Str.ofString "wire", Str.ofString "sign", Str.ofString "groups", Str.ofString "word", Str.ofString "received"]
abbrev ststuck_groups : Stmt := topS 2
theorem scstuck_groups : FnScope Nstuck_groups pstuck_groups (defScope ststuck_groups) := ⟨rfl, rfl, rfl, by decide +kernel, rfl, by decide +kernel, by decide +kernel⟩
theorem bdstuck_groups (dstuck_word : Df P w K mg base CX0 1 (Str.ofString "stuck_word") pstuck_word (spOf0 K pstuck_word.length sstuck_word)) (z_list : mg (Str.ofString "list") = none) (z_sorted : mg (Str.ofString "sorted") = none) (z_tuple : mg (Str.ofString "tuple") = none)
    (f : Addr) (cdv : Value) (A : Around) (outer : List Env) (s1 : Shared) (H : Hp) (E : XK) (hr : RoomG 1 (A.deeper (envOfC (Str.ofString "stuck_groups") (defScope ststuck_groups) s1.heap.objs.size f cdv))) :
    PSsD (cxOf CX0 P w K mg base Nstuck_groups (Str.ofString "stuck_groups") (defScope ststuck_groups) f cdv A outer s1 H E).nox [] (defBody ststuck_groups) (rdG .tuple 6) := by
  have nd : Nstuck_groups.Nodup := scstuck_groups.nd
  refine ⟨fun c hc => PSs_imp (pss_cons (ps_asg pe_dnewK (pg_name (i := 3) nd rfl (Or.inr rfl)))
    (pss_cons (ps_for PassesOwn.never rfl (PID.x (pid_it (pd_b (cr_sort hr.u66) on_sort z_sorted (pad_cons (pd_var (pv 0)) pad_nil)))) (pg_name (i := 4) nd rfl (Or.inl rfl))
      (pss_one (ps_expr (pe_bm PySem.F.plainAttrs_list PySem.F.slot_list_append PySem.F.type_list_append mt_append
        (pe_dsetd (pv 3) (PD.x (io := []) (pd_call0 (Df.d dstuck_word) nstuck_word (hr.mono (by decide)) pass0 rfl (pad_cons (pd_var (pv 4)) (pad_cons (pd_var (pv 1)) (pad_cons (pd_var (pv 2)) pad_nil))))) (pe_lst pa_nil) ⟨rfl, rfl, rfl, rfl⟩) (pa_cons (pv 4) pa_nil)))))
    (pss_one (ps_ret (pe_callTy call_tuple_of rfl z_tuple (by decide +kernel) (pa_cons
      (pe_lc (own := [(Str.ofString "received", 5)]) rfl nd (pi_any (pe_callB (cr_sort hr.u66) rfl z_sorted (by decide +kernel) (pa_cons (pe_callTy (call_listD rfl) rfl z_list (by decide +kernel) (pa_cons (pv 3) pa_nil)) pa_nil))) (blkOk_by (by walk_at "bk"))
        (fun _ _ _ _ _ => pg_name (i := 5) nd rfl (Or.inl rfl)) (fun _ _ _ _ _ => pts_nil) (fun _ _ _ _ _ => pe_callTy call_tuple_of rfl z_tuple (by decide +kernel) (pa_cons (pe_dget hr.u1 (pv 3) (pv 5) (fun _ _ => rfl)) pa_nil))) pa_nil))))))
    fun E σ H h => grp_all (.inl rfl) hc (.inl rfl) (v := 5) rfl ?_ h⟩
  intro d0 i m c' p g r G σ H w' D2 hw hm hi hg hr' hr0 S nx
  refine grp_a hc _ (fun d0 i m c w r P hw hm hi k => ⟨w, i, c, rfl, by omega, by omega, k⟩) (n := 6) d0 i m c' p g r G σ H w' _ hw hm hi hg hr0 S fun a l g1 g2 G' H' hcase ex S1 hl => ?_
  have hmem : (stuckW i c' w', a, l) ∈ g1 ++ (stuckW i c' w', a, l) :: g2 := List.mem_append_right _ List.mem_cons_self
  refine ⟨.inl ⟨rfl, _, .inl (.inl (S1.list hmem))⟩, vS w', sig4 S1 hr0, a, _, vS w', rfl, rfl, S1.list hmem, by rw [line24, List.length_map]; show l.length < 16777216; omega, ?_⟩
  exact nx _ r G' σ _ ⟨g1, a, l, g2, hcase, rfl⟩ hr' ex (app_step S1)
abbrev N_law_groups : List Str := [Str.ofString "words", Str.ofString "wire", Str.ofString "sign", Str.ofString "groups", Str.ofString "word", Str.ofString "group", Str.ofString "received"]
abbrev st_law_groups : Stmt := topS 20
theorem sc_law_groups : FnScope N_law_groups p_law_groups (defScope st_law_groups) := ⟨rfl, rfl, rfl, by decide +kernel, rfl, by decide +kernel, by decide +kernel⟩
theorem bd_law_groups (z_list : mg (Str.ofString "list") = none) (z_sorted : mg (Str.ofString "sorted") = none) (z_tuple : mg (Str.ofString "tuple") = none)
    (f : Addr) (cdv : Value) (A : Around) (outer : List Env) (s1 : Shared) (H : Hp) (E : XK) (hr : RoomG 0 (A.deeper (envOfC (Str.ofString "_law_groups") (defScope st_law_groups) s1.heap.objs.size f cdv))) :
    PSsD (cxOf CX0 P w K mg base N_law_groups (Str.ofString "_law_groups") (defScope st_law_groups) f cdv A outer s1 H E).nox [] (defBody st_law_groups) (rdG .list 7) := by
  have nd : N_law_groups.Nodup := sc_law_groups.nd
  refine ⟨fun c hc => PSs_imp (pss_cons (ps_asg pe_dnewK (pg_name (i := 3) nd rfl (Or.inr rfl)))
    (pss_cons (ps_for PassesOwn.never rfl (PID.x (pid_it (pd_b (cr_sort hr.u66) on_sort z_sorted (pad_cons (pd_var (pv 0)) pad_nil)))) (pg_name (i := 4) nd rfl (Or.inl rfl))
      (pss_cons (ps_asg (pe_dsetd (pv 3) (PD.x (io := []) (pd_op opr_add o2_add (pd_op opr_add o2_add (pd_slice (pd_var (pv 4)) pod_no (pod_so (pd_var (pv 1)))) (pd_var (pv 2))) (pd_slice (pd_var (pv 4)) (pod_so (pd_op opr_add o2_add (pd_var (pv 1)) pd_int)) pod_no))) (pe_lst pa_nil) ⟨rfl, rfl, rfl, rfl⟩) (pg_name (i := 5) nd rfl (Or.inl rfl)))
        (pss_one (ps_expr (pe_bm PySem.F.plainAttrs_list PySem.F.slot_list_append PySem.F.type_list_append mt_append (pv 5) (pa_cons (pv 4) pa_nil))))))
    (pss_one (ps_ret (pe_callTy call_tuple_of rfl z_tuple (by decide +kernel) (pa_cons
      (pe_lc (own := [(Str.ofString "received", 6)]) rfl nd (pi_any (pe_callB (cr_sort hr.u66) rfl z_sorted (by decide +kernel) (pa_cons (pe_callTy (call_listD rfl) rfl z_list (by decide +kernel) (pa_cons (pv 3) pa_nil)) pa_nil))) (blkOk_by (by walk_at "bk"))
        (fun _ _ _ _ _ => pg_name (i := 6) nd rfl (Or.inl rfl)) (fun _ _ _ _ _ => pts_nil) (fun _ _ _ _ _ => pe_callTy call_tuple_of rfl z_tuple (by decide +kernel) (pa_cons (pe_dget hr.u1 (pv 3) (pv 6) (fun _ _ => rfl)) pa_nil))) pa_nil))))))
    fun E σ H h => grp_all (.inr rfl) hc (.inr rfl) (v := 6) rfl ?_ h⟩
  intro d0 i m c' p g r G σ H w' D2 hw hm hi hg hr' hr0 S nx
  refine grp_a hc _ (fun d0 i m c w r P hw hm hi k => ?_) (n := 7) d0 i m c' p g r G σ H w' _ hw hm hi hg hr0 S fun a l g1 g2 G' H' hcase ex S1 hl => ?_
  · refine sl_to (a := w) (i := (i : Int)) (by omega) (by omega) ?_
    refine add_sd (b := [c]) (by simp; omega) ?_
    refine add_i ?_
    refine sl_from (a := w) (i := (i : Int) + 1) (by omega) (by omega) ?_
    refine add_sd (by simp; omega) ?_
    exact k
  · have hmem : (stuckW i c' w', a, l) ∈ g1 ++ (stuckW i c' w', a, l) :: g2 := List.mem_append_right _ List.mem_cons_self
    obtain ⟨x4, r, rfl⟩ : ∃ x4 r', r = x4 :: r' := by
      cases r with
      | nil => cases hr0
      | cons s r => exact ⟨s, r, rfl⟩
    have S2 := S1.putUn hc (j := 5) (v := some (.ref a)) (by decide)
    have hlen : 5 < σ.length := by
      have := S1.s.len
      simp at this
      simp at hr'
      omega
    refine ⟨.ref a, List.getElem?_set_self hlen, .inl ⟨rfl, _, .inl (.inl (S1.list hmem))⟩, vS w', by rw [List.getElem?_set_ne (by decide)]; exact sig4 S1 hr0, a, _, vS w', rfl, rfl, S1.list hmem, by rw [line24, List.length_map]; show l.length < 16777216; omega, ?_⟩
    exact nx _ (x4 :: r.set 0 .un) G' _ _ ⟨g1, a, l, g2, hcase, rfl⟩ (by simpa using hr') ex (app_step S2)
theorem fnstuck_groups (dstuck_word : Df P w K mg base CX0 1 (Str.ofString "stuck_word") pstuck_word (spOf0 K pstuck_word.length sstuck_word)) (z_list : mg (Str.ofString "list") = none) (z_sorted : mg (Str.ofString "sorted") = none) (z_tuple : mg (Str.ofString "tuple") = none)
    {f : Addr} {fd : FuncData} (F : Fun K (Str.ofString "stuck_groups") (Str.ofString "stuck_groups") ststuck_groups f fd) : FnG P w K mg base CX0 2 f fd pstuck_groups (spOf0 K pstuck_groups.length sstuck_groups) :=
  fn_d0 F scstuck_groups (by decide) nstuck_groups (bdstuck_groups dstuck_word z_list z_sorted z_tuple f) okstuck_groups
theorem fn_law_groups (z_list : mg (Str.ofString "list") = none) (z_sorted : mg (Str.ofString "sorted") = none) (z_tuple : mg (Str.ofString "tuple") = none)
    {f : Addr} {fd : FuncData} (F : Fun K (Str.ofString "_law_groups") (Str.ofString "_law_groups") st_law_groups f fd) : FnG P w K mg base CX0 1 f fd p_law_groups (spOf0 K p_law_groups.length s_law_groups) :=
  fn_d0 F sc_law_groups (by decide) n_law_groups (bd_law_groups z_list z_sorted z_tuple f) ok_law_groups
end

end HD


set_option Elab.async false
set_option linter.all false
set_option maxRecDepth 100000
set_option maxHeartbeats 4000000
namespace HD
open PySem PySem.Spec PyProof.Rows L2
local macro_rules | `(tactic| walk_at "w") => `(tactic| conv => whnf)
local macro_rules | `(tactic| walk_at "ar") => `(tactic| (try dsimp only) <;> first | omega | decide | assumption)
local macro_rules | `(tactic| walk_at "bk") => `(tactic| first | rfl | (refine Eq.trans (b := true) ?_ rfl; rfl))
section
variable {P : Program} {w : World} {K : PySem.W.Frag} {mg : Str → Option Value} {base : Heap}
theorem fnstuck_word    {f : Addr} {fd : FuncData} (F : Fun K (Str.ofString "stuck_word") (Str.ofString "stuck_word") ststuck_word f fd) : FnG P w K mg base CX0 1 f fd pstuck_word (spOf0 K pstuck_word.length sstuck_word) :=
  fn_d0 F scstuck_word (by decide) nstuck_word (bdstuck_word    f) okstuck_word
theorem fn_law_stream  (z_abs : mg (Str.ofString "abs") = none) (z_int : mg (Str.ofString "int") = none) (z_len : mg (Str.ofString "len") = none) (z_min : mg (Str.ofString "min") = none) (z_range : mg (Str.ofString "range") = none)  {f : Addr} {fd : FuncData} (F : Fun K (Str.ofString "_law_stream") (Str.ofString "_law_stream") st_law_stream f fd) : FnG P w K mg base CX0 1 f fd p_law_stream (spOf0 K p_law_stream.length s_law_stream) :=
  fn_d0 F sc_law_stream (by decide) n_law_stream (bd_law_stream  z_abs z_int z_len z_min z_range  f) ok_law_stream
theorem fn_law_take  (z_int : mg (Str.ofString "int") = none) (z_len : mg (Str.ofString "len") = none)  {f : Addr} {fd : FuncData} (F : Fun K (Str.ofString "_law_take") (Str.ofString "_law_take") st_law_take f fd) : FnG P w K mg base CX0 1 f fd p_law_take (spOf1 K p_law_take.length s_law_take) :=
  fn_d1 F sc_law_take (by decide) n_law_take (bd_law_take  z_int z_len  f) ok_law_take
theorem fn_law_same  (z_repr : mg (Str.ofString "repr") = none)  {f : Addr} {fd : FuncData} (F : Fun K (Str.ofString "_law_same") (Str.ofString "_law_same") st_law_same f fd) : FnG P w K mg base CX0 1 f fd p_law_same (spOf0 K p_law_same.length s_law_same) :=
  fn_d0 F sc_law_same (by decide) n_law_same (bd_law_same  z_repr  f) ok_law_same
theorem fn_law_opposite  (z_int : mg (Str.ofString "int") = none)  {f : Addr} {fd : FuncData} (F : Fun K (Str.ofString "_law_opposite") (Str.ofString "_law_opposite") st_law_opposite f fd) : FnG P w K mg base CX0 1 f fd p_law_opposite (spOf0 K p_law_opposite.length s_law_opposite) :=
  fn_d0 F sc_law_opposite (by decide) n_law_opposite (bd_law_opposite  z_int  f) ok_law_opposite
theorem fn_law_words  (z_range : mg (Str.ofString "range") = none)  {f : Addr} {fd : FuncData} (F : Fun K (Str.ofString "_law_words") (Str.ofString "_law_words") st_law_words f fd) : FnG P w K mg base CX0 1 f fd p_law_words (spOf0 K p_law_words.length s_law_words) :=
  fn_d0 F sc_law_words (by decide) n_law_words (bd_law_words  z_range  f) ok_law_words
theorem fn_law_part    {f : Addr} {fd : FuncData} (F : Fun K (Str.ofString "_law_part") (Str.ofString "_law_part") st_law_part f fd) : FnG P w K mg base CX0 1 f fd p_law_part (spOf0 K p_law_part.length s_law_part) :=
  fn_d0 F sc_law_part (by decide) n_law_part (bd_law_part    f) ok_law_part
theorem fn_law_pairs    {f : Addr} {fd : FuncData} (F : Fun K (Str.ofString "_law_pairs") (Str.ofString "_law_pairs") st_law_pairs f fd) : FnG P w K mg base CX0 1 f fd p_law_pairs (spOf0 K p_law_pairs.length s_law_pairs) :=
  fn_d0 F sc_law_pairs (by decide) n_law_pairs (bd_law_pairs    f) ok_law_pairs
theorem fn_law_lot (d_law_take : Df P w K mg base CX0 1 (Str.ofString "_law_take") p_law_take (spOf1 K p_law_take.length s_law_take)) (z_range : mg (Str.ofString "range") = none) (z_tuple : mg (Str.ofString "tuple") = none)  {f : Addr} {fd : FuncData} (F : Fun K (Str.ofString "_law_lot") (Str.ofString "_law_lot") st_law_lot f fd) : FnG P w K mg base CX0 2 f fd p_law_lot (spOf1 K p_law_lot.length s_law_lot) :=
  fn_d1 F sc_law_lot (by decide) n_law_lot (bd_law_lot d_law_take z_range z_tuple  f) ok_law_lot
theorem fn_law_standard (d_law_opposite : Df P w K mg base CX0 1 (Str.ofString "_law_opposite") p_law_opposite (spOf0 K p_law_opposite.length s_law_opposite)) (z_len : mg (Str.ofString "len") = none) (z_range : mg (Str.ofString "range") = none) (z_sorted : mg (Str.ofString "sorted") = none) (z_tuple : mg (Str.ofString "tuple") = none)  {f : Addr} {fd : FuncData} (F : Fun K (Str.ofString "_law_standard") (Str.ofString "_law_standard") st_law_standard f fd) : FnG P w K mg base CX0 2 f fd p_law_standard (spOf0 K p_law_standard.length s_law_standard) :=
  fn_d0 F sc_law_standard (by decide) n_law_standard (bd_law_standard d_law_opposite z_len z_range z_sorted z_tuple  f) ok_law_standard
theorem fn_law_lacks (d_law_opposite : Df P w K mg base CX0 1 (Str.ofString "_law_opposite") p_law_opposite (spOf0 K p_law_opposite.length s_law_opposite)) (d_law_part : Df P w K mg base CX0 1 (Str.ofString "_law_part") p_law_part (spOf0 K p_law_part.length s_law_part))   {f : Addr} {fd : FuncData} (F : Fun K (Str.ofString "_law_lacks") (Str.ofString "_law_lacks") st_law_lacks f fd) : FnG P w K mg base CX0 2 f fd p_law_lacks (spOf0 K p_law_lacks.length s_law_lacks) :=
  fn_d0 F sc_law_lacks (by decide) n_law_lacks (bd_law_lacks d_law_opposite d_law_part   f) ok_law_lacks
theorem fn_law_shuffled (d_law_take : Df P w K mg base CX0 1 (Str.ofString "_law_take") p_law_take (spOf1 K p_law_take.length s_law_take)) (z_len : mg (Str.ofString "len") = none)  {f : Addr} {fd : FuncData} (F : Fun K (Str.ofString "_law_shuffled") (Str.ofString "_law_shuffled") st_law_shuffled f fd) : FnG P w K mg base CX0 2 f fd p_law_shuffled (spOf1 K p_law_shuffled.length s_law_shuffled) :=
  fn_d1 F sc_law_shuffled (by decide) n_law_shuffled (bd_law_shuffled d_law_take z_len  f) ok_law_shuffled
theorem fn_law_word (d_law_take : Df P w K mg base CX0 1 (Str.ofString "_law_take") p_law_take (spOf1 K p_law_take.length s_law_take)) (z_range : mg (Str.ofString "range") = none)  {f : Addr} {fd : FuncData} (F : Fun K (Str.ofString "_law_word") (Str.ofString "_law_word") st_law_word f fd) : FnG P w K mg base CX0 2 f fd p_law_word (spOf1 K p_law_word.length s_law_word) :=
  fn_d1 F sc_law_word (by decide) n_law_word (bd_law_word d_law_take z_range  f) ok_law_word
theorem fn_law_lots (d_law_take : Df P w K mg base CX0 1 (Str.ofString "_law_take") p_law_take (spOf1 K p_law_take.length s_law_take)) (d_law_lot : Df P w K mg base CX0 2 (Str.ofString "_law_lot") p_law_lot (spOf1 K p_law_lot.length s_law_lot)) (z_len : mg (Str.ofString "len") = none) (z_range : mg (Str.ofString "range") = none) (z_str : mg (Str.ofString "str") = none)  {f : Addr} {fd : FuncData} (F : Fun K (Str.ofString "_law_lots") (Str.ofString "_law_lots") st_law_lots f fd) : FnG P w K mg base CX0 3 f fd p_law_lots (spOf1 K p_law_lots.length s_law_lots) :=
  fn_d1 F sc_law_lots (by decide) n_law_lots (bd_law_lots d_law_take d_law_lot z_len z_range z_str  f) ok_law_lots
theorem fn_law_bus (d_law_standard : Df P w K mg base CX0 2 (Str.ofString "_law_standard") p_law_standard (spOf0 K p_law_standard.length s_law_standard)) (z_sorted : mg (Str.ofString "sorted") = none) (z_tuple : mg (Str.ofString "tuple") = none)  {f : Addr} {fd : FuncData} (F : Fun K (Str.ofString "_law_bus") (Str.ofString "_law_bus") st_law_bus f fd) : FnG P w K mg base CX0 3 f fd p_law_bus (spOf0 K p_law_bus.length s_law_bus) :=
  fn_d0 F sc_law_bus (by decide) n_law_bus (bd_law_bus d_law_standard z_sorted z_tuple  f) ok_law_bus
theorem fn_law_left (d_law_words : Df P w K mg base CX0 1 (Str.ofString "_law_words") p_law_words (spOf0 K p_law_words.length s_law_words)) (d_law_lacks : Df P w K mg base CX0 2 (Str.ofString "_law_lacks") p_law_lacks (spOf0 K p_law_lacks.length s_law_lacks)) (z_len : mg (Str.ofString "len") = none) (z_range : mg (Str.ofString "range") = none)  {f : Addr} {fd : FuncData} (F : Fun K (Str.ofString "_law_left") (Str.ofString "_law_left") st_law_left f fd) : FnG P w K mg base CX0 3 f fd p_law_left (spOf0 K p_law_left.length s_law_left) :=
  fn_d0 F sc_law_left (by decide) n_law_left (bd_law_left d_law_words d_law_lacks z_len z_range  f) ok_law_left
theorem fn_law_wide_words (d_law_word : Df P w K mg base CX0 2 (Str.ofString "_law_word") p_law_word (spOf1 K p_law_word.length s_law_word)) (d_law_words : Df P w K mg base CX0 1 (Str.ofString "_law_words") p_law_words (spOf0 K p_law_words.length s_law_words)) (d_law_take : Df P w K mg base CX0 1 (Str.ofString "_law_take") p_law_take (spOf1 K p_law_take.length s_law_take)) (d_law_shuffled : Df P w K mg base CX0 2 (Str.ofString "_law_shuffled") p_law_shuffled (spOf1 K p_law_shuffled.length s_law_shuffled))   {f : Addr} {fd : FuncData} (F : Fun K (Str.ofString "_law_wide_words") (Str.ofString "_law_wide_words") st_law_wide_words f fd) : FnG P w K mg base CX0 3 f fd p_law_wide_words (spOf1 K p_law_wide_words.length s_law_wide_words) :=
  fn_d1 F sc_law_wide_words (by decide) n_law_wide_words (bd_law_wide_words d_law_word d_law_words d_law_take d_law_shuffled   f) ok_law_wide_words
theorem fn_law_right (dstuck_groups : Df P w K mg base CX0 2 (Str.ofString "stuck_groups") pstuck_groups (spOf0 K pstuck_groups.length sstuck_groups)) (d_law_same : Df P w K mg base CX0 1 (Str.ofString "_law_same") p_law_same (spOf0 K p_law_same.length s_law_same)) (d_law_groups : Df P w K mg base CX0 1 (Str.ofString "_law_groups") p_law_groups (spOf0 K p_law_groups.length s_law_groups)) (d_law_pairs : Df P w K mg base CX0 1 (Str.ofString "_law_pairs") p_law_pairs (spOf0 K p_law_pairs.length s_law_pairs)) (dstuck_word : Df P w K mg base CX0 1 (Str.ofString "stuck_word") pstuck_word (spOf0 K pstuck_word.length sstuck_word)) (z_len : mg (Str.ofString "len") = none) (z_tuple : mg (Str.ofString "tuple") = none)  {f : Addr} {fd : FuncData} (F : Fun K (Str.ofString "_law_right") (Str.ofString "_law_right") st_law_right f fd) : FnG P w K mg base CX0 3 f fd p_law_right (spOf0 K p_law_right.length s_law_right) :=
  fn_d0 F sc_law_right (by decide) n_law_right (bd_law_right dstuck_groups d_law_same d_law_groups d_law_pairs dstuck_word z_len z_tuple  f) ok_law_right
theorem fn_law_case (d_law_take : Df P w K mg base CX0 1 (Str.ofString "_law_take") p_law_take (spOf1 K p_law_take.length s_law_take)) (d_law_wide_words : Df P w K mg base CX0 3 (Str.ofString "_law_wide_words") p_law_wide_words (spOf1 K p_law_wide_words.length s_law_wide_words)) (d_law_bus : Df P w K mg base CX0 3 (Str.ofString "_law_bus") p_law_bus (spOf0 K p_law_bus.length s_law_bus)) (d_law_lots : Df P w K mg base CX0 3 (Str.ofString "_law_lots") p_law_lots (spOf1 K p_law_lots.length s_law_lots)) (d_law_shuffled : Df P w K mg base CX0 2 (Str.ofString "_law_shuffled") p_law_shuffled (spOf1 K p_law_shuffled.length s_law_shuffled)) (d_law_left : Df P w K mg base CX0 3 (Str.ofString "_law_left") p_law_left (spOf0 K p_law_left.length s_law_left)) (d_law_word : Df P w K mg base CX0 2 (Str.ofString "_law_word") p_law_word (spOf1 K p_law_word.length s_law_word)) (z_min : mg (Str.ofString "min") = none) (z_range : mg (Str.ofString "range") = none)  {f : Addr} {fd : FuncData} (F : Fun K (Str.ofString "_law_case") (Str.ofString "_law_case") st_law_case f fd) : FnG P w K mg base CX0 4 f fd p_law_case (spOf1 K p_law_case.length s_law_case) :=
  fn_d1 F sc_law_case (by decide) n_law_case (bd_law_case d_law_take d_law_wide_words d_law_bus d_law_lots d_law_shuffled d_law_left d_law_word z_min z_range  f) ok_law_case
theorem fnlaw (d_law_stream : Df P w K mg base CX0 1 (Str.ofString "_law_stream") p_law_stream (spOf0 K p_law_stream.length s_law_stream)) (d_law_case : Df P w K mg base CX0 4 (Str.ofString "_law_case") p_law_case (spOf1 K p_law_case.length s_law_case)) (d_law_right : Df P w K mg base CX0 3 (Str.ofString "_law_right") p_law_right (spOf0 K p_law_right.length s_law_right))   {f : Addr} {fd : FuncData} (F : Fun K (Str.ofString "law") (Str.ofString "law") stlaw f fd) : FnG P w K mg base CX0 5 f fd plaw (spOf0 K plaw.length slaw) :=
  fn_d0 F sclaw (by decide) nlaw (bdlaw d_law_stream d_law_case d_law_right   f) oklaw
end
def estuck_word : He.DefD := ⟨((Str.ofString "stuck_word"), none), (Str.ofString "stuck_word"), (Str.ofString "stuck_word"), defArgs ststuck_word, defBody ststuck_word, defScope ststuck_word, [], []⟩
def estuck_groups : He.DefD := ⟨((Str.ofString "stuck_groups"), none), (Str.ofString "stuck_groups"), (Str.ofString "stuck_groups"), defArgs ststuck_groups, defBody ststuck_groups, defScope ststuck_groups, [], []⟩
def e_law_stream : He.DefD := ⟨((Str.ofString "_law_stream"), none), (Str.ofString "_law_stream"), (Str.ofString "_law_stream"), defArgs st_law_stream, defBody st_law_stream, defScope st_law_stream, [], []⟩
def e_law_take : He.DefD := ⟨((Str.ofString "_law_take"), none), (Str.ofString "_law_take"), (Str.ofString "_law_take"), defArgs st_law_take, defBody st_law_take, defScope st_law_take, [], []⟩
def e_law_same : He.DefD := ⟨((Str.ofString "_law_same"), none), (Str.ofString "_law_same"), (Str.ofString "_law_same"), defArgs st_law_same, defBody st_law_same, defScope st_law_same, [], []⟩
def e_law_lot : He.DefD := ⟨((Str.ofString "_law_lot"), none), (Str.ofString "_law_lot"), (Str.ofString "_law_lot"), defArgs st_law_lot, defBody st_law_lot, defScope st_law_lot, [], []⟩
def e_law_lots : He.DefD := ⟨((Str.ofString "_law_lots"), none), (Str.ofString "_law_lots"), (Str.ofString "_law_lots"), defArgs st_law_lots, defBody st_law_lots, defScope st_law_lots, [], []⟩
def e_law_opposite : He.DefD := ⟨((Str.ofString "_law_opposite"), none), (Str.ofString "_law_opposite"), (Str.ofString "_law_opposite"), defArgs st_law_opposite, defBody st_law_opposite, defScope st_law_opposite, [], []⟩
def e_law_standard : He.DefD := ⟨((Str.ofString "_law_standard"), none), (Str.ofString "_law_standard"), (Str.ofString "_law_standard"), defArgs st_law_standard, defBody st_law_standard, defScope st_law_standard, [], []⟩
def e_law_bus : He.DefD := ⟨((Str.ofString "_law_bus"), none), (Str.ofString "_law_bus"), (Str.ofString "_law_bus"), defArgs st_law_bus, defBody st_law_bus, defScope st_law_bus, [], []⟩
def e_law_words : He.DefD := ⟨((Str.ofString "_law_words"), none), (Str.ofString "_law_words"), (Str.ofString "_law_words"), defArgs st_law_words, defBody st_law_words, defScope st_law_words, [], []⟩
def e_law_part : He.DefD := ⟨((Str.ofString "_law_part"), none), (Str.ofString "_law_part"), (Str.ofString "_law_part"), defArgs st_law_part, defBody st_law_part, defScope st_law_part, [], []⟩
def e_law_lacks : He.DefD := ⟨((Str.ofString "_law_lacks"), none), (Str.ofString "_law_lacks"), (Str.ofString "_law_lacks"), defArgs st_law_lacks, defBody st_law_lacks, defScope st_law_lacks, [], []⟩
def e_law_left : He.DefD := ⟨((Str.ofString "_law_left"), none), (Str.ofString "_law_left"), (Str.ofString "_law_left"), defArgs st_law_left, defBody st_law_left, defScope st_law_left, [], []⟩
def e_law_shuffled : He.DefD := ⟨((Str.ofString "_law_shuffled"), none), (Str.ofString "_law_shuffled"), (Str.ofString "_law_shuffled"), defArgs st_law_shuffled, defBody st_law_shuffled, defScope st_law_shuffled, [], []⟩
def e_law_word : He.DefD := ⟨((Str.ofString "_law_word"), none), (Str.ofString "_law_word"), (Str.ofString "_law_word"), defArgs st_law_word, defBody st_law_word, defScope st_law_word, [], []⟩
def e_law_wide_words : He.DefD := ⟨((Str.ofString "_law_wide_words"), none), (Str.ofString "_law_wide_words"), (Str.ofString "_law_wide_words"), defArgs st_law_wide_words, defBody st_law_wide_words, defScope st_law_wide_words, [], []⟩
def e_law_case : He.DefD := ⟨((Str.ofString "_law_case"), none), (Str.ofString "_law_case"), (Str.ofString "_law_case"), defArgs st_law_case, defBody st_law_case, defScope st_law_case, [], []⟩
def e_law_groups : He.DefD := ⟨((Str.ofString "_law_groups"), none), (Str.ofString "_law_groups"), (Str.ofString "_law_groups"), defArgs st_law_groups, defBody st_law_groups, defScope st_law_groups, [], []⟩
def e_law_pairs : He.DefD := ⟨((Str.ofString "_law_pairs"), none), (Str.ofString "_law_pairs"), (Str.ofString "_law_pairs"), defArgs st_law_pairs, defBody st_law_pairs, defScope st_law_pairs, [], []⟩
def e_law_right : He.DefD := ⟨((Str.ofString "_law_right"), none), (Str.ofString "_law_right"), (Str.ofString "_law_right"), defArgs st_law_right, defBody st_law_right, defScope st_law_right, [], []⟩
def elaw : He.DefD := ⟨((Str.ofString "law"), none), (Str.ofString "law"), (Str.ofString "law"), defArgs stlaw, defBody stlaw, defScope stlaw, [], []⟩
def fnL : List He.DefD := [estuck_word, estuck_groups, e_law_stream, e_law_take, e_law_same, e_law_lot, e_law_lots, e_law_opposite, e_law_standard, e_law_bus, e_law_words, e_law_part, e_law_lacks, e_law_left, e_law_shuffled, e_law_word, e_law_wide_words, e_law_case, e_law_groups, e_law_pairs, e_law_right, elaw]
def faL : List He.Fa := [.glo (Str.ofString "stuck_word"), .glo (Str.ofString "stuck_groups"), .glo (Str.ofString "_law_stream"), .glo (Str.ofString "_law_take"), .glo (Str.ofString "_law_same"), .glo (Str.ofString "_law_lot"), .glo (Str.ofString "_law_lots"), .glo (Str.ofString "_law_opposite"), .glo (Str.ofString "_law_standard"), .glo (Str.ofString "_law_bus"), .glo (Str.ofString "_law_words"), .glo (Str.ofString "_law_part"), .glo (Str.ofString "_law_lacks"), .glo (Str.ofString "_law_left"), .glo (Str.ofString "_law_shuffled"), .glo (Str.ofString "_law_word"), .glo (Str.ofString "_law_wide_words"), .glo (Str.ofString "_law_case"), .glo (Str.ofString "_law_groups"), .glo (Str.ofString "_law_pairs"), .glo (Str.ofString "_law_right"), .glo (Str.ofString "law"), .free (Str.ofString "abs"), .free (Str.ofString "int"), .free (Str.ofString "len"), .free (Str.ofString "list"), .free (Str.ofString "min"), .free (Str.ofString "range"), .free (Str.ofString "repr"), .free (Str.ofString "sorted"), .free (Str.ofString "str"), .free (Str.ofString "tuple")]
abbrev RL : PySem.W.OpenRow := PySem.W.OpenLaw.row PySem.Challenge.rw_neveropposed_k51_stuck_wires
abbrev hkL : PySem.W.Hook := He.hookD 4 faL fnL
def obL (s : PySem.W.SharedT) : He.AlD := He.obsDG 4 faL fnL (HandSHeadRun.getT s)
theorem obL_eq (s : PySem.W.SharedT) : obL s = hkL.obs s.abs := He.obsDG_eq (HandSHeadRun.getT_eq s)
def looseL : List Str := [(Str.ofString "stuck_word"), (Str.ofString "stuck_groups"), (Str.ofString "_law_stream"), (Str.ofString "_law_take"), (Str.ofString "_law_same"), (Str.ofString "_law_lot"), (Str.ofString "_law_lots"), (Str.ofString "_law_opposite"), (Str.ofString "_law_standard"), (Str.ofString "_law_bus"), (Str.ofString "_law_words"), (Str.ofString "_law_part"), (Str.ofString "_law_lacks"), (Str.ofString "_law_left"), (Str.ofString "_law_shuffled"), (Str.ofString "_law_word"), (Str.ofString "_law_wide_words"), (Str.ofString "_law_case"), (Str.ofString "_law_groups"), (Str.ofString "_law_pairs"), (Str.ofString "_law_right")]
set_option maxHeartbeats 0 in
theorem runL (w : World) : HandSHeadRun.RunEq RL (PySem.W.view RL.prog [23]) hkL obL 2000 looseL w := by
  intro os
  kernel_rfl
theorem factsL {P : Program} {w : World} {K : PySem.W.Frag} {h : Heap} {mg : Str → Option Value} {f : Addr} (X : K.In h) (G : h.Ns mainGlobals mg) (hfa : mg (Str.ofString "law") = some (.ref f)) (c : He.SaysD faL fnL K) :
    ∃ fd : FuncData, (∀ (s : Shared) (v : Value), BindsTo s fd ⟨[v], []⟩ [((Str.ofString "script"), v)]) ∧ ∀ base : Heap, K.In base → base.Ns mainGlobals mg → FnG P w K mg base CX0 5 f fd plaw (spOf0 K 1 slaw) := by
  obtain ⟨fdstuck_word, Fstuck_word⟩ := c.def_ 0 (d := estuck_word) rfl
  obtain ⟨fdstuck_groups, Fstuck_groups⟩ := c.def_ 1 (d := estuck_groups) rfl
  obtain ⟨fd_law_stream, F_law_stream⟩ := c.def_ 2 (d := e_law_stream) rfl
  obtain ⟨fd_law_take, F_law_take⟩ := c.def_ 3 (d := e_law_take) rfl
  obtain ⟨fd_law_same, F_law_same⟩ := c.def_ 4 (d := e_law_same) rfl
  obtain ⟨fd_law_lot, F_law_lot⟩ := c.def_ 5 (d := e_law_lot) rfl
  obtain ⟨fd_law_lots, F_law_lots⟩ := c.def_ 6 (d := e_law_lots) rfl
  obtain ⟨fd_law_opposite, F_law_opposite⟩ := c.def_ 7 (d := e_law_opposite) rfl
  obtain ⟨fd_law_standard, F_law_standard⟩ := c.def_ 8 (d := e_law_standard) rfl
  obtain ⟨fd_law_bus, F_law_bus⟩ := c.def_ 9 (d := e_law_bus) rfl
  obtain ⟨fd_law_words, F_law_words⟩ := c.def_ 10 (d := e_law_words) rfl
  obtain ⟨fd_law_part, F_law_part⟩ := c.def_ 11 (d := e_law_part) rfl
  obtain ⟨fd_law_lacks, F_law_lacks⟩ := c.def_ 12 (d := e_law_lacks) rfl
  obtain ⟨fd_law_left, F_law_left⟩ := c.def_ 13 (d := e_law_left) rfl
  obtain ⟨fd_law_shuffled, F_law_shuffled⟩ := c.def_ 14 (d := e_law_shuffled) rfl
  obtain ⟨fd_law_word, F_law_word⟩ := c.def_ 15 (d := e_law_word) rfl
  obtain ⟨fd_law_wide_words, F_law_wide_words⟩ := c.def_ 16 (d := e_law_wide_words) rfl
  obtain ⟨fd_law_case, F_law_case⟩ := c.def_ 17 (d := e_law_case) rfl
  obtain ⟨fd_law_groups, F_law_groups⟩ := c.def_ 18 (d := e_law_groups) rfl
  obtain ⟨fd_law_pairs, F_law_pairs⟩ := c.def_ 19 (d := e_law_pairs) rfl
  obtain ⟨fd_law_right, F_law_right⟩ := c.def_ 20 (d := e_law_right) rfl
  obtain ⟨fdlaw, Flaw⟩ := c.def_ 21 (d := elaw) rfl
  have e := hfa.symm.trans (He.glo_ok X G (c.fact 21 (f := .glo (Str.ofString "law")) rfl))
  cases e
  have bl := FunD.bindsA (ps := plaw) Flaw fun _ _ _ _ _ _ us hl => match us, hl with | [_], _ => rfl
  have Gstuck_word := fun_ofD (st := ststuck_word) Fstuck_word
  have bstuck_word : Binds K fdstuck_word pstuck_word [] := Gstuck_word.binds fun _ _ _ _ _ _ us hl => match us, hl with | [_, _, _], _ => rfl
  have Gstuck_groups := fun_ofD (st := ststuck_groups) Fstuck_groups
  have bstuck_groups : Binds K fdstuck_groups pstuck_groups [] := Gstuck_groups.binds fun _ _ _ _ _ _ us hl => match us, hl with | [_, _, _], _ => rfl
  have G_law_stream := fun_ofD (st := st_law_stream) F_law_stream
  have b_law_stream : Binds K fd_law_stream p_law_stream [] := G_law_stream.binds fun _ _ _ _ _ _ us hl => match us, hl with | [_], _ => rfl
  have G_law_take := fun_ofD (st := st_law_take) F_law_take
  have b_law_take : Binds K fd_law_take p_law_take [] := G_law_take.binds fun _ _ _ _ _ _ us hl => match us, hl with | [_, _], _ => rfl
  have G_law_same := fun_ofD (st := st_law_same) F_law_same
  have b_law_same : Binds K fd_law_same p_law_same [] := G_law_same.binds fun _ _ _ _ _ _ us hl => match us, hl with | [_, _], _ => rfl
  have G_law_lot := fun_ofD (st := st_law_lot) F_law_lot
  have b_law_lot : Binds K fd_law_lot p_law_lot [] := G_law_lot.binds fun _ _ _ _ _ _ us hl => match us, hl with | [_, _, _], _ => rfl
  have G_law_lots := fun_ofD (st := st_law_lots) F_law_lots
  have b_law_lots : Binds K fd_law_lots p_law_lots [] := G_law_lots.binds fun _ _ _ _ _ _ us hl => match us, hl with | [_, _, _], _ => rfl
  have G_law_opposite := fun_ofD (st := st_law_opposite) F_law_opposite
  have b_law_opposite : Binds K fd_law_opposite p_law_opposite [] := G_law_opposite.binds fun _ _ _ _ _ _ us hl => match us, hl with | [_], _ => rfl
  have G_law_standard := fun_ofD (st := st_law_standard) F_law_standard
  have b_law_standard : Binds K fd_law_standard p_law_standard [] := G_law_standard.binds fun _ _ _ _ _ _ us hl => match us, hl with | [_], _ => rfl
  have G_law_bus := fun_ofD (st := st_law_bus) F_law_bus
  have b_law_bus : Binds K fd_law_bus p_law_bus [] := G_law_bus.binds fun _ _ _ _ _ _ us hl => match us, hl with | [_, _], _ => rfl
  have G_law_words := fun_ofD (st := st_law_words) F_law_words
  have b_law_words : Binds K fd_law_words p_law_words [] := G_law_words.binds fun _ _ _ _ _ _ us hl => match us, hl with | [_], _ => rfl
  have G_law_part := fun_ofD (st := st_law_part) F_law_part
  have b_law_part : Binds K fd_law_part p_law_part [] := G_law_part.binds fun _ _ _ _ _ _ us hl => match us, hl with | [_, _], _ => rfl
  have G_law_lacks := fun_ofD (st := st_law_lacks) F_law_lacks
  have b_law_lacks : Binds K fd_law_lacks p_law_lacks [] := G_law_lacks.binds fun _ _ _ _ _ _ us hl => match us, hl with | [_, _, _], _ => rfl
  have G_law_left := fun_ofD (st := st_law_left) F_law_left
  have b_law_left : Binds K fd_law_left p_law_left [] := G_law_left.binds fun _ _ _ _ _ _ us hl => match us, hl with | [_, _], _ => rfl
  have G_law_shuffled := fun_ofD (st := st_law_shuffled) F_law_shuffled
  have b_law_shuffled : Binds K fd_law_shuffled p_law_shuffled [] := G_law_shuffled.binds fun _ _ _ _ _ _ us hl => match us, hl with | [_, _], _ => rfl
  have G_law_word := fun_ofD (st := st_law_word) F_law_word
  have b_law_word : Binds K fd_law_word p_law_word [] := G_law_word.binds fun _ _ _ _ _ _ us hl => match us, hl with | [_, _], _ => rfl
  have G_law_wide_words := fun_ofD (st := st_law_wide_words) F_law_wide_words
  have b_law_wide_words : Binds K fd_law_wide_words p_law_wide_words [] := G_law_wide_words.binds fun _ _ _ _ _ _ us hl => match us, hl with | [_], _ => rfl
  have G_law_case := fun_ofD (st := st_law_case) F_law_case
  have b_law_case : Binds K fd_law_case p_law_case [] := G_law_case.binds fun _ _ _ _ _ _ us hl => match us, hl with | [_], _ => rfl
  have G_law_groups := fun_ofD (st := st_law_groups) F_law_groups
  have b_law_groups : Binds K fd_law_groups p_law_groups [] := G_law_groups.binds fun _ _ _ _ _ _ us hl => match us, hl with | [_, _, _], _ => rfl
  have G_law_pairs := fun_ofD (st := st_law_pairs) F_law_pairs
  have b_law_pairs : Binds K fd_law_pairs p_law_pairs [] := G_law_pairs.binds fun _ _ _ _ _ _ us hl => match us, hl with | [_, _], _ => rfl
  have G_law_right := fun_ofD (st := st_law_right) F_law_right
  have b_law_right : Binds K fd_law_right p_law_right [] := G_law_right.binds fun _ _ _ _ _ _ us hl => match us, hl with | [_], _ => rfl
  have Glaw := fun_ofD (st := stlaw) Flaw
  have z_abs := He.free_ok X G (c.fact 22 (f := .free (Str.ofString "abs")) rfl)
  have z_int := He.free_ok X G (c.fact 23 (f := .free (Str.ofString "int")) rfl)
  have z_len := He.free_ok X G (c.fact 24 (f := .free (Str.ofString "len")) rfl)
  have z_list := He.free_ok X G (c.fact 25 (f := .free (Str.ofString "list")) rfl)
  have z_min := He.free_ok X G (c.fact 26 (f := .free (Str.ofString "min")) rfl)
  have z_range := He.free_ok X G (c.fact 27 (f := .free (Str.ofString "range")) rfl)
  have z_repr := He.free_ok X G (c.fact 28 (f := .free (Str.ofString "repr")) rfl)
  have z_sorted := He.free_ok X G (c.fact 29 (f := .free (Str.ofString "sorted")) rfl)
  have z_str := He.free_ok X G (c.fact 30 (f := .free (Str.ofString "str")) rfl)
  have z_tuple := He.free_ok X G (c.fact 31 (f := .free (Str.ofString "tuple")) rfl)
  refine ⟨fdlaw, fun s v => bl s [v] rfl, fun base _ _ => ?_⟩
  have dstuck_word : Df P w K mg base CX0 1 (Str.ofString "stuck_word") pstuck_word (spOf0 K pstuck_word.length sstuck_word) := df_mk (He.glo_ok X G (c.fact 0 (f := .glo (Str.ofString "stuck_word")) rfl)) Fstuck_word.kp bstuck_word (fnstuck_word  Gstuck_word)
  have d_law_stream : Df P w K mg base CX0 1 (Str.ofString "_law_stream") p_law_stream (spOf0 K p_law_stream.length s_law_stream) := df_mk (He.glo_ok X G (c.fact 2 (f := .glo (Str.ofString "_law_stream")) rfl)) F_law_stream.kp b_law_stream (fn_law_stream z_abs z_int z_len z_min z_range G_law_stream)
  have d_law_take : Df P w K mg base CX0 1 (Str.ofString "_law_take") p_law_take (spOf1 K p_law_take.length s_law_take) := df_mk (He.glo_ok X G (c.fact 3 (f := .glo (Str.ofString "_law_take")) rfl)) F_law_take.kp b_law_take (fn_law_take z_int z_len G_law_take)
  have d_law_same : Df P w K mg base CX0 1 (Str.ofString "_law_same") p_law_same (spOf0 K p_law_same.length s_law_same) := df_mk (He.glo_ok X G (c.fact 4 (f := .glo (Str.ofString "_law_same")) rfl)) F_law_same.kp b_law_same (fn_law_same z_repr G_law_same)
  have d_law_opposite : Df P w K mg base CX0 1 (Str.ofString "_law_opposite") p_law_opposite (spOf0 K p_law_opposite.length s_law_opposite) := df_mk (He.glo_ok X G (c.fact 7 (f := .glo (Str.ofString "_law_opposite")) rfl)) F_law_opposite.kp b_law_opposite (fn_law_opposite z_int G_law_opposite)
  have d_law_words : Df P w K mg base CX0 1 (Str.ofString "_law_words") p_law_words (spOf0 K p_law_words.length s_law_words) := df_mk (He.glo_ok X G (c.fact 10 (f := .glo (Str.ofString "_law_words")) rfl)) F_law_words.kp b_law_words (fn_law_words z_range G_law_words)
  have d_law_part : Df P w K mg base CX0 1 (Str.ofString "_law_part") p_law_part (spOf0 K p_law_part.length s_law_part) := df_mk (He.glo_ok X G (c.fact 11 (f := .glo (Str.ofString "_law_part")) rfl)) F_law_part.kp b_law_part (fn_law_part  G_law_part)
  have d_law_groups : Df P w K mg base CX0 1 (Str.ofString "_law_groups") p_law_groups (spOf0 K p_law_groups.length s_law_groups) := df_mk (He.glo_ok X G (c.fact 18 (f := .glo (Str.ofString "_law_groups")) rfl)) F_law_groups.kp b_law_groups (fn_law_groups z_list z_sorted z_tuple G_law_groups)
  have d_law_pairs : Df P w K mg base CX0 1 (Str.ofString "_law_pairs") p_law_pairs (spOf0 K p_law_pairs.length s_law_pairs) := df_mk (He.glo_ok X G (c.fact 19 (f := .glo (Str.ofString "_law_pairs")) rfl)) F_law_pairs.kp b_law_pairs (fn_law_pairs  G_law_pairs)
  have dstuck_groups : Df P w K mg base CX0 2 (Str.ofString "stuck_groups") pstuck_groups (spOf0 K pstuck_groups.length sstuck_groups) := df_mk (He.glo_ok X G (c.fact 1 (f := .glo (Str.ofString "stuck_groups")) rfl)) Fstuck_groups.kp bstuck_groups (fnstuck_groups dstuck_word z_list z_sorted z_tuple Gstuck_groups)
  have d_law_lot : Df P w K mg base CX0 2 (Str.ofString "_law_lot") p_law_lot (spOf1 K p_law_lot.length s_law_lot) := df_mk (He.glo_ok X G (c.fact 5 (f := .glo (Str.ofString "_law_lot")) rfl)) F_law_lot.kp b_law_lot (fn_law_lot d_law_take z_range z_tuple G_law_lot)
  have d_law_standard : Df P w K mg base CX0 2 (Str.ofString "_law_standard") p_law_standard (spOf0 K p_law_standard.length s_law_standard) := df_mk (He.glo_ok X G (c.fact 8 (f := .glo (Str.ofString "_law_standard")) rfl)) F_law_standard.kp b_law_standard (fn_law_standard d_law_opposite z_len z_range z_sorted z_tuple G_law_standard)
  have d_law_lacks : Df P w K mg base CX0 2 (Str.ofString "_law_lacks") p_law_lacks (spOf0 K p_law_lacks.length s_law_lacks) := df_mk (He.glo_ok X G (c.fact 12 (f := .glo (Str.ofString "_law_lacks")) rfl)) F_law_lacks.kp b_law_lacks (fn_law_lacks d_law_opposite d_law_part G_law_lacks)
  have d_law_shuffled : Df P w K mg base CX0 2 (Str.ofString "_law_shuffled") p_law_shuffled (spOf1 K p_law_shuffled.length s_law_shuffled) := df_mk (He.glo_ok X G (c.fact 14 (f := .glo (Str.ofString "_law_shuffled")) rfl)) F_law_shuffled.kp b_law_shuffled (fn_law_shuffled d_law_take z_len G_law_shuffled)
  have d_law_word : Df P w K mg base CX0 2 (Str.ofString "_law_word") p_law_word (spOf1 K p_law_word.length s_law_word) := df_mk (He.glo_ok X G (c.fact 15 (f := .glo (Str.ofString "_law_word")) rfl)) F_law_word.kp b_law_word (fn_law_word d_law_take z_range G_law_word)
  have d_law_lots : Df P w K mg base CX0 3 (Str.ofString "_law_lots") p_law_lots (spOf1 K p_law_lots.length s_law_lots) := df_mk (He.glo_ok X G (c.fact 6 (f := .glo (Str.ofString "_law_lots")) rfl)) F_law_lots.kp b_law_lots (fn_law_lots d_law_take d_law_lot z_len z_range z_str G_law_lots)
  have d_law_bus : Df P w K mg base CX0 3 (Str.ofString "_law_bus") p_law_bus (spOf0 K p_law_bus.length s_law_bus) := df_mk (He.glo_ok X G (c.fact 9 (f := .glo (Str.ofString "_law_bus")) rfl)) F_law_bus.kp b_law_bus (fn_law_bus d_law_standard z_sorted z_tuple G_law_bus)
  have d_law_left : Df P w K mg base CX0 3 (Str.ofString "_law_left") p_law_left (spOf0 K p_law_left.length s_law_left) := df_mk (He.glo_ok X G (c.fact 13 (f := .glo (Str.ofString "_law_left")) rfl)) F_law_left.kp b_law_left (fn_law_left d_law_words d_law_lacks z_len z_range G_law_left)
  have d_law_wide_words : Df P w K mg base CX0 3 (Str.ofString "_law_wide_words") p_law_wide_words (spOf1 K p_law_wide_words.length s_law_wide_words) := df_mk (He.glo_ok X G (c.fact 16 (f := .glo (Str.ofString "_law_wide_words")) rfl)) F_law_wide_words.kp b_law_wide_words (fn_law_wide_words d_law_word d_law_words d_law_take d_law_shuffled G_law_wide_words)
  have d_law_right : Df P w K mg base CX0 3 (Str.ofString "_law_right") p_law_right (spOf0 K p_law_right.length s_law_right) := df_mk (He.glo_ok X G (c.fact 20 (f := .glo (Str.ofString "_law_right")) rfl)) F_law_right.kp b_law_right (fn_law_right dstuck_groups d_law_same d_law_groups d_law_pairs dstuck_word z_len z_tuple G_law_right)
  have d_law_case : Df P w K mg base CX0 4 (Str.ofString "_law_case") p_law_case (spOf1 K p_law_case.length s_law_case) := df_mk (He.glo_ok X G (c.fact 17 (f := .glo (Str.ofString "_law_case")) rfl)) F_law_case.kp b_law_case (fn_law_case d_law_take d_law_wide_words d_law_bus d_law_lots d_law_shuffled d_law_left d_law_word z_min z_range G_law_case)
  exact fnlaw d_law_stream d_law_case d_law_right Glaw
end HD
open PySem PySem.W PySem.Calls PyProof.Rows
set_option maxHeartbeats 0 in
theorem PySem.Challenge.cw_neveropposed_k51_stuck_wires_holds : PySem.Challenge.rw_neveropposed_k51_stuck_wires.Holds := by
  w_on; o_law
  refine HandSHeadRun.head_any (r := OpenLaw.row PySem.Challenge.rw_neveropposed_k51_stuck_wires) (q := view (OpenLaw.row PySem.Challenge.rw_neveropposed_k51_stuck_wires).prog [23]) (H := HD.hkL) (ob := HD.obL) (M := 2000) (loose := HD.looseL) (d := HandSHeadRun.topDef (OpenLaw.row PySem.Challenge.rw_neveropposed_k51_stuck_wires).prog 23) (kwd := []) HD.obL_eq
    (by kernel_rfl) (fun s => by kernel_rfl) HD.runL (by kernel_rfl) (by kernel_rfl) (by kernel_rfl) (by rfl) (by first | assumption | decide +kernel) (by decide +kernel) ⟨rfl, rfl, rfl, rfl, rfl, by decide +kernel⟩ ?hw ?hc
  case hw => w_witness2
  case hc =>
    refine HD.walk_ofGE (l := PySem.Challenge.rw_neveropposed_k51_stuck_wires) (n := 63) (k := 5) (x := (PySem.Str.ofString "script")) (CX := L2.CX0) rfl (by decide) (by kernel_rfl) ⟨⟨rfl, by decide, by decide⟩, rfl⟩ ?F (fun _ _ _ _ z => z)
    intro w mg fa h Y G hmg0
    obtain ⟨K, KX, c⟩ := Y
    have hmg : mg (PySem.Str.ofString "law") = some (.ref fa) := by
      have e : (HandSHeadRun.topDef (OpenLaw.row PySem.Challenge.rw_neveropposed_k51_stuck_wires).prog 23).name = (PySem.Str.ofString "law") := by kernel_rfl
      rw [← e]
      exact hmg0
    obtain ⟨fd, hb, hF⟩ := HD.factsL (P := (PySem.Challenge.rw_neveropposed_k51_stuck_wires).prog) (w := w) KX G hmg c
    exact ⟨K, fd, _, KX, hb, fun H a ns hl _ hS => HD.law_sp hS fun Q hQ => ⟨ns, rfl, hQ⟩, hF⟩

