import PyProof.Rows.All
import Wide.All
import OpenK.AllK
import Wide.FinOn
import Lean
import PySem.Challenge.RW_pf0339_01
section
open PySem PySem.W PySem.Spec PySem.Calls PyProof.Rows
set_option Elab.async false
namespace Mine
set_option tactic.hygienic false
set_option maxRecDepth 100000

/-- what a value says, as a tree -/
inductive Tr where
  | none
  | bool (b : Bool)
  | int (i : Int)
  | str (x : PySem.Str)
  | bytes (ks : List Int)
  | list (xs : List Tr)
  | tup (xs : List Tr)
  | ip (fs : List Tr)
  | exc (why : PySem.Str)
  | slice (lo hi : Option Int)

noncomputable abbrev Led := List (Addr × Obj)
noncomputable abbrev Facts := Addr → Obj → Prop

noncomputable def PF (h₀ : Heap) (fr : Led) : Facts := fun a o => h₀.get? a = some o ∨ (a, o) ∈ fr

noncomputable def ipNames : List PySem.Str := ["source", "target", "protocol", "data", "ttl", "ident", "flags", "place", "dscp", "ecn", "options"]
noncomputable def ipEs (pm : Params) : List PySem.Str → List Tok → List Value → List DictEntry
  | n :: ns, t :: ts, v :: vs => ⟨PyData.keyHash pm n, .str n t, v⟩ :: ipEs pm ns ts vs
  | _, _, _ => []

structure Wo where
  pm : Params
  ipC : Addr
  exC : List Addr
  outs : List Addr := []
  hold : List (Addr × Obj) := []

section
variable (G : Wo) (P : Facts)
mutual
noncomputable def Den : Tr → Value → Prop
  | .none, v => v = .none
  | .bool b, v => v = .bool b
  | .int i, v => ∃ t, v = .int i t
  | .str x, v => ∃ t, v = .str x t
  | .bytes ks, v => ∃ b t, v = .bytes b t ∧ KBw.bInts b = ks
  | .list xs, v => ∃ a o vs, v = .ref a ∧ P a o ∧ o.cls = .type "list" ∧ (∃ n, o.data = .seq vs.toArray n) ∧ DenL xs vs
  | .tup xs, v => ∃ a o vs, v = .ref a ∧ P a o ∧ o.cls = .type "tuple" ∧ (∃ n, o.data = .seq vs.toArray n) ∧ DenL xs vs
  | .ip fs, v => ∃ a d vs n ts, v = .ref a ∧ P a (instObj G.ipC d) ∧ P d (dictOf (ipEs G.pm ipNames ts vs) n) ∧ DenL fs vs ∧ vs.length = ts.length ∧ vs.length ≤ 11
  | .exc why, v => ∃ a o d es n t, v = .ref a ∧ P a o ∧ (∃ c, o.cls = .ref c ∧ c ∈ G.exC ∧ notCls o = true ∧ o.dict = some d) ∧ P d (dictOf es n) ∧ getL "why" es = some (some (.str why t))
  | .slice lo hi, v => ∃ a o l u, v = .ref a ∧ P a o ∧ o.cls = .type "slice" ∧ o.data = .fields #[l, u, .none] ∧ IsPart l lo ∧ IsPart u hi
noncomputable def DenL : List Tr → List Value → Prop
  | [], vs => vs = []
  | x :: xs, vs => ∃ v r, vs = v :: r ∧ Den x v ∧ DenL xs r
end
end

mutual
theorem Den.mono {G : Wo} {P P' : Facts} (h : ∀ a o, P a o → P' a o) : ∀ {t : Tr} {v : Value}, Den G P t v → Den G P' t v
  | .none, _, x => x
  | .bool _, _, x => x
  | .int _, _, x => x
  | .str _, _, x => x
  | .bytes _, _, x => x
  | .list xs, _, x => by
    obtain ⟨a, o, vs, e, p, c, n, d⟩ := x
    exact ⟨a, o, vs, e, h _ _ p, c, n, DenL.mono h d⟩
  | .tup xs, _, x => by
    obtain ⟨a, o, vs, e, p, c, n, d⟩ := x
    exact ⟨a, o, vs, e, h _ _ p, c, n, DenL.mono h d⟩
  | .ip fs, _, x => by
    obtain ⟨a, d, vs, n, ts, e, p, q, dd, r⟩ := x
    exact ⟨a, d, vs, n, ts, e, h _ _ p, h _ _ q, DenL.mono h dd, r⟩
  | .exc _, _, x => by
    obtain ⟨a, o, d, es, n, t, e, p, q, pd, r⟩ := x
    exact ⟨a, o, d, es, n, t, e, h _ _ p, q, h _ _ pd, r⟩
  | .slice _ _, _, x => by
    obtain ⟨a, o, l, u, e, p, r⟩ := x
    exact ⟨a, o, l, u, e, h _ _ p, r⟩
theorem DenL.mono {G : Wo} {P P' : Facts} (h : ∀ a o, P a o → P' a o) : ∀ {xs : List Tr} {vs : List Value}, DenL G P xs vs → DenL G P' xs vs
  | [], _, x => x
  | _ :: _, _, x => by
    obtain ⟨v, r, e, d, dl⟩ := x
    exact ⟨v, r, e, Den.mono h d, DenL.mono h dl⟩
end


section
variable {G : Wo} {P P' : Facts}
theorem DenL.length : ∀ {xs : List Tr} {vs : List Value}, DenL G P xs vs → vs.length = xs.length
  | [], _, x => by rw [x]; rfl
  | _ :: _, _, x => by obtain ⟨v, r, rfl, _, dl⟩ := x; simp [DenL.length dl]
theorem DenL.nil : DenL G P [] [] := rfl
theorem DenL.cons {x : Tr} {xs : List Tr} {v : Value} {vs : List Value} (h : Den G P x v) (hl : DenL G P xs vs) : DenL G P (x :: xs) (v :: vs) := ⟨v, vs, rfl, h, hl⟩
theorem DenL.get : ∀ {xs : List Tr} {vs : List Value}, DenL G P xs vs → ∀ {i : Nat} {x : Tr}, xs[i]? = some x → ∃ v, vs[i]? = some v ∧ Den G P x v
  | [], _, _, _, _, e => by simp at e
  | _ :: _, _, h, 0, _, e => by obtain ⟨v, r, rfl, d, _⟩ := h; simp at e; subst e; exact ⟨v, rfl, d⟩
  | _ :: _, _, h, i + 1, _, e => by obtain ⟨v, r, rfl, _, dl⟩ := h; simp at e; obtain ⟨u, hu, d⟩ := dl.get e; exact ⟨u, by simpa using hu, d⟩
theorem DenL.getR : ∀ {xs : List Tr} {vs : List Value}, DenL G P xs vs → ∀ {i : Nat} {v : Value}, vs[i]? = some v → ∃ x, xs[i]? = some x ∧ Den G P x v
  | [], _, h, _, _, e => by rw [h] at e; simp at e
  | _ :: _, _, h, 0, _, e => by obtain ⟨v, r, rfl, d, _⟩ := h; simp at e; subst e; exact ⟨_, rfl, d⟩
  | _ :: _, _, h, i + 1, _, e => by obtain ⟨v, r, rfl, _, dl⟩ := h; simp at e; obtain ⟨u, hu, d⟩ := dl.getR e; exact ⟨u, by simpa using hu, d⟩
theorem DenL.append : ∀ {xs ys : List Tr} {vs ws : List Value}, DenL G P xs vs → DenL G P ys ws → DenL G P (xs ++ ys) (vs ++ ws)
  | [], _, _, _, h, k => by rw [h]; exact k
  | _ :: _, _, _, _, h, k => by obtain ⟨v, r, rfl, d, dl⟩ := h; exact ⟨v, r ++ _, rfl, d, dl.append k⟩
theorem DenL.take : ∀ {xs : List Tr} {vs : List Value}, DenL G P xs vs → ∀ n, DenL G P (xs.take n) (vs.take n)
  | [], _, h, n => by rw [h]; simp [DenL]
  | _ :: _, _, _, 0 => by simp [DenL]
  | _ :: _, _, h, n + 1 => by obtain ⟨v, r, rfl, d, dl⟩ := h; exact ⟨v, r.take n, rfl, d, dl.take n⟩
theorem DenL.drop : ∀ {xs : List Tr} {vs : List Value}, DenL G P xs vs → ∀ n, DenL G P (xs.drop n) (vs.drop n)
  | _, _, h, 0 => h
  | [], _, h, n + 1 => by rw [h]; simp [DenL]
  | _ :: _, _, h, n + 1 => by obtain ⟨v, r, rfl, d, dl⟩ := h; exact dl.drop n
theorem DenL.set : ∀ {xs : List Tr} {vs : List Value}, DenL G P xs vs → ∀ {x : Tr} {v : Value}, Den G P x v → ∀ n, DenL G P (xs.set n x) (vs.set n v)
  | [], _, h, _, _, _, n => by rw [h]; simp [DenL]
  | _ :: _, _, h, _, _, k, 0 => by obtain ⟨v, r, rfl, d, dl⟩ := h; exact ⟨_, r, rfl, k, dl⟩
  | _ :: _, _, h, _, _, k, n + 1 => by obtain ⟨v, r, rfl, d, dl⟩ := h; exact ⟨v, _, rfl, d, dl.set k n⟩
theorem DenL.ints : ∀ {ns : List Int} {vs : List Value}, DenL G P (ns.map Tr.int) vs → IntsAre vs ns
  | [], _, h => by rw [h]; exact .nil
  | _ :: _, _, h => by obtain ⟨v, r, rfl, ⟨t, rfl⟩, dl⟩ := h; exact .cons _ t dl.ints
theorem DenL.of_ints : ∀ {vs : List Value} {ns : List Int}, IntsAre vs ns → DenL G P (ns.map Tr.int) vs
  | _, _, .nil => rfl
  | _, _, .cons _ t h => ⟨_, _, rfl, ⟨t, rfl⟩, DenL.of_ints h⟩
end

/-- an object that one name alone holds -/
inductive Cell (G : Wo) (P : Facts) : Tr → Value → Led → Prop
  | list {a : Addr} {vs : List Value} {n : Nat} {xs : List Tr} : DenL G P xs vs → Cell G P (.list xs) (.ref a) [(a, listOf vs.toArray n)]
  | ip {a d : Addr} {vs : List Value} {ts : List Tok} {n : Nat} {fs : List Tr} : DenL G P fs vs → vs.length = ts.length → vs.length ≤ 11 → Cell G P (.ip fs) (.ref a) [(a, instObj G.ipC d), (d, dictOf (ipEs G.pm ipNames ts vs) n)]

theorem Cell.mono {G : Wo} {P P' : Facts} (h : ∀ a o, P a o → P' a o) {t : Tr} {v : Value} {c : Led} (x : Cell G P t v c) : Cell G P' t v c := by
  cases x with
  | list d => exact .list (d.mono h)
  | ip d e f => exact .ip (d.mono h) e f
theorem Cell.den {G : Wo} {P P' : Facts} (h : ∀ a o, P a o → P' a o) {t : Tr} {v : Value} {c : Led} (x : Cell G P t v c) (hc : ∀ p ∈ c, P' p.1 p.2) : Den G P' t v := by
  cases x with
  | list d => exact ⟨_, _, _, rfl, hc _ (.head _), rfl, ⟨_, rfl⟩, d.mono h⟩
  | ip d e f => exact ⟨_, _, _, _, _, rfl, hc _ (.head _), hc _ (.tail _ (.head _)), d.mono h, e, f⟩

inductive Slot where
  | val (t : Tr)
  | mu (t : Tr)
noncomputable abbrev Loc := List (PySem.Str × Slot)

noncomputable def look (x : PySem.Str) : Loc → Option Slot
  | [] => none
  | (y, s) :: r => if y = x then some s else look x r
noncomputable def upd (x : PySem.Str) (sl : Slot) : Loc → Loc
  | [] => [(x, sl)]
  | (y, s) :: r => if y = x then (x, sl) :: r else (y, s) :: upd x sl r

/-- a slot's meaning: the value, and the objects that the name alone holds -/
inductive SlotR (G : Wo) (P : Facts) : Slot → Value → Led → Prop
  | val {t : Tr} {v : Value} : Den G P t v → SlotR G P (.val t) v []
  | mu {t : Tr} {v : Value} {c : Led} : Cell G P t v c → SlotR G P (.mu t) v c
theorem SlotR.mono {G : Wo} {P P' : Facts} (h : ∀ a o, P a o → P' a o) {sl : Slot} {v : Value} {c : Led} (x : SlotR G P sl v c) : SlotR G P' sl v c := by
  cases x with
  | val d => exact .val (d.mono h)
  | mu d => exact .mu (d.mono h)

inductive LocR (G : Wo) (P : Facts) (m : PySem.Str → Option Value) : Loc → Led → Prop
  | nil : LocR G P m [] []
  | cons {x : PySem.Str} {sl : Slot} {v : Value} {c : Led} {ρ : Loc} {own : Led} : m x = some v → SlotR G P sl v c → LocR G P m ρ own → LocR G P m ((x, sl) :: ρ) (c ++ own)

theorem LocR.mono {G : Wo} {P P' : Facts} {m : PySem.Str → Option Value} (h : ∀ a o, P a o → P' a o) {ρ : Loc} {own : Led} (x : LocR G P m ρ own) : LocR G P' m ρ own := by
  induction x with
  | nil => exact .nil
  | cons e d _ ih => exact .cons e (d.mono h) ih
theorem LocR.other {G : Wo} {P : Facts} {m m' : PySem.Str → Option Value} {ρ : Loc} {own : Led} (r : LocR G P m ρ own) (hx : ∀ p ∈ ρ, m' p.1 = m p.1) : LocR G P m' ρ own := by
  induction r with
  | nil => exact .nil
  | @cons y sl u c ρ own e d _ ih => exact .cons (by rw [hx _ (.head _)]; exact e) d (ih fun p hp => hx p (.tail _ hp))

theorem upd_keys (x : PySem.Str) (sl : Slot) : ∀ ρ : Loc, ∀ y, y ∈ (upd x sl ρ).map (·.1) → y = x ∨ y ∈ ρ.map (·.1)
  | [], y, h => by simp [upd] at h; exact .inl h
  | (z, s) :: r, y, h => by
    unfold upd at h
    split at h
    · rcases List.mem_cons.mp h with h | h
      · exact .inl h
      · exact .inr (.tail _ h)
    · rcases List.mem_cons.mp h with h | h
      · exact .inr (h ▸ .head _)
      · exact (upd_keys x sl r y h).imp id (.tail _)
theorem upd_nodup (x : PySem.Str) (sl : Slot) : ∀ ρ : Loc, (ρ.map (·.1)).Nodup → ((upd x sl ρ).map (·.1)).Nodup
  | [], _ => by simp [upd]
  | (z, s) :: r, h => by
    have h' := List.nodup_cons.mp h
    unfold upd
    split
    · rename_i e
      subst e
      exact h
    · rename_i e
      refine List.nodup_cons.mpr ⟨fun hm => ?_, upd_nodup x sl r h'.2⟩
      rcases upd_keys x sl r _ hm with q | q
      · exact e q
      · exact h'.1 q

structure Locs (G : Wo) (h₀ : Heap) (m : PySem.Str → Option Value) (own fr : Led) (W : List Addr) (ρ : Loc) : Prop where
  loc : LocR G (PF h₀ fr) m ρ own
  nd : (ρ.map (·.1)).Nodup
  ndo : (own.map (·.1)).Nodup
  off : ∀ p ∈ own, ∀ q ∈ fr, p.1 ≠ q.1
  offW : ∀ p ∈ own ++ fr, p.1 ∉ W

structure Inv (G : Wo) (h₀ : Heap) (L : Addr) (h : Heap) (m : PySem.Str → Option Value) (own fr aux : Led) (W : List Addr) (ρ : Loc) : Prop where
  F : Fr h₀ L h m
  N : News h₀ L h (own ++ fr ++ aux)
  S : Locs G h₀ m own fr W ρ
  live : ∀ b ∈ W, ∃ o, (b, o) ∈ aux
  cover : ∀ q ∈ aux, q.1 ∈ W
  outs : ∀ a ∈ G.outs, ∃ o, (a, o) ∈ aux ∧ ∀ vs, o.data ≠ .fields vs
  hold : ∀ p ∈ G.hold, p ∈ fr

section
variable {G : Wo} {h₀ h h' : Heap} {L : Addr} {m : PySem.Str → Option Value} {own fr aux : Led} {W : List Addr} {ρ : Loc}
theorem PF.heap (F : Fr h₀ L h m) (N : News h₀ L h (own ++ fr ++ aux)) {a : Addr} {o : Obj} (p : PF h₀ fr a o) : h.get? a = some o := by
  rcases p with p | p
  · exact F.keep _ _ p
  · exact (N _ (List.mem_append_left _ (List.mem_append_right _ p))).1
theorem Inv.pf (I : Inv G h₀ L h m own fr aux W ρ) {a : Addr} {o : Obj} (p : PF h₀ fr a o) : h.get? a = some o := PF.heap I.F I.N p
theorem PF.mono {fr' : Led} (k : ∀ p ∈ fr, p ∈ fr') : ∀ a o, PF h₀ fr a o → PF h₀ fr' a o := fun _ _ p => p.imp id (k _)
theorem Inv.keep (I : Inv G h₀ L h m own fr aux W ρ) (F : Fr h₀ L h' m) (N : News h₀ L h' (own ++ fr ++ aux)) : Inv G h₀ L h' m own fr aux W ρ := ⟨F, N, I.S, I.live, I.cover, I.outs, I.hold⟩
/-- new frozen objects -/
theorem Inv.more (I : Inv G h₀ L h m own fr aux W ρ) {x : Led} (F : Fr h₀ L h' m) (N : News h₀ L h' (own ++ (x ++ fr) ++ aux)) (hx : ∀ p ∈ x, h.get? p.1 = none) : Inv G h₀ L h' m own (x ++ fr) aux W ρ := by
  have old : ∀ p ∈ own ++ fr ++ aux, ∀ q ∈ x, p.1 ≠ q.1 := fun p hp q hq e => by
    have := (I.N p hp).1; rw [e, hx q hq] at this; cases this
  refine ⟨F, N, ⟨I.S.loc.mono (PF.mono fun p hp => List.mem_append_right _ hp), I.S.nd, I.S.ndo, fun p hp q hq => ?_, fun p hp hW => ?_⟩, I.live, I.cover, I.outs, fun p hp => List.mem_append_right _ (I.hold p hp)⟩
  · rcases List.mem_append.mp hq with hq | hq
    · exact old p (List.mem_append_left _ (List.mem_append_left _ hp)) q hq
    · exact I.S.off p hp q hq
  · have : p ∈ own ++ fr ∨ p ∈ x := by
      rcases List.mem_append.mp hp with hp | hp
      · exact .inl (List.mem_append_left _ hp)
      · rcases List.mem_append.mp hp with hp | hp
        · exact .inr hp
        · exact .inl (List.mem_append_right _ hp)
    rcases this with q | q
    · exact I.S.offW p q hW
    · obtain ⟨o, ho⟩ := I.live _ hW
      exact old _ (List.mem_append_right _ ho) p q rfl
theorem Inv.look_lt (I : Inv G h₀ L h m own fr aux W ρ) : ∀ p ∈ own ++ fr ++ aux, p.1 < h.objs.size := fun p hp => Heap.lt_size (I.N p hp).1
end

theorem LocR.at {G : Wo} {P : Facts} {m : PySem.Str → Option Value} (x : PySem.Str) {ρ : Loc} {own : Led} (r : LocR G P m ρ own) (nd : (ρ.map (·.1)).Nodup) :
    ∃ o1 c o2, own = o1 ++ c ++ o2 ∧ (look x ρ = none → c = []) ∧ (∀ sl, look x ρ = some sl → ∃ v, m x = some v ∧ SlotR G P sl v c) ∧
      ∀ (P' : Facts) (m' : PySem.Str → Option Value) (sl : Slot) (v : Value) (c' : Led), (∀ a o, P a o → P' a o) → (∀ y, y ≠ x → m' y = m y) → m' x = some v → SlotR G P' sl v c' → LocR G P' m' (upd x sl ρ) (o1 ++ c' ++ o2) := by
  induction r with
  | nil => exact ⟨[], [], [], rfl, fun _ => rfl, fun sl e => by simp [look] at e, fun P' m' sl v c' _ _ h1 h2 => by simpa [upd] using LocR.cons h1 h2 .nil⟩
  | @cons y sy u cy ρ own e d r' ih =>
    have nd' := List.nodup_cons.mp nd
    by_cases q : y = x
    · subst q
      refine ⟨[], cy, own, rfl, fun h => by simp [look] at h, fun sl h => ?_, fun P' m' sl v c' hP hm h1 h2 => ?_⟩
      · simp [look] at h; subst h; exact ⟨u, e, d⟩
      · unfold upd; rw [if_pos rfl]
        exact .cons h1 h2 ((r'.mono hP).other fun p hp => hm _ fun z => nd'.1 (List.mem_map.mpr ⟨p, hp, z⟩))
    · obtain ⟨o1, c, o2, h1, h2, h3, h4⟩ := ih nd'.2
      subst h1
      refine ⟨cy ++ o1, c, o2, by simp, fun h => h2 (by simpa [look, q] using h), fun sl h => h3 sl (by simpa [look, q] using h), fun P' m' sl v c' hP hm k1 k2 => ?_⟩
      unfold upd; rw [if_neg q]
      have := LocR.cons (by rw [hm _ q]; exact e) (d.mono hP) (h4 P' m' sl v c' hP hm k1 k2)
      simpa using this

section
variable {G : Wo} {h₀ h h' : Heap} {L : Addr} {m : PySem.Str → Option Value} {own fr aux : Led} {W : List Addr} {ρ : Loc}

/-- the objects of a name are handed over to the frozen ones -/
theorem Inv.freeze (I : Inv G h₀ L h m own fr aux W ρ) {x : PySem.Str} {t : Tr} (e : look x ρ = some (.mu t)) :
    ∃ own' fr' v, Inv G h₀ L h m own' fr' aux W (upd x (.val t) ρ) ∧ (∀ p ∈ fr, p ∈ fr') ∧ m x = some v ∧ Den G (PF h₀ fr') t v ∧ (∀ p, p ∈ own' ++ fr' ↔ p ∈ own ++ fr) := by
  obtain ⟨o1, c, o2, h1, _, h3, h4⟩ := I.S.loc.at x I.S.nd
  obtain ⟨v, hv, hs⟩ := h3 _ e
  subst h1
  cases hs with
  | mu hc =>
    have mono : ∀ a o, PF h₀ fr a o → PF h₀ (c ++ fr) a o := PF.mono fun p hp => List.mem_append_right _ hp
    have hd : Den G (PF h₀ (c ++ fr)) t v := hc.den mono fun p hp => .inr (List.mem_append_left _ hp)
    have mem : ∀ p, p ∈ (o1 ++ o2) ++ (c ++ fr) ↔ p ∈ (o1 ++ c ++ o2) ++ fr := fun p => by
      simp only [List.mem_append]
      constructor
      · rintro ((a | a) | (a | a)) <;> simp [a]
      · rintro (((a | a) | a) | a) <;> simp [a]
    have hnd := I.S.ndo
    simp only [List.map_append] at hnd
    refine ⟨o1 ++ o2, c ++ fr, v, ⟨I.F, fun p hp => I.N p ?_, ⟨?_, upd_nodup _ _ _ I.S.nd, ?_, ?_, fun p hp => I.S.offW p ((mem p).mp hp)⟩, I.live, I.cover, I.outs, fun p hp => List.mem_append_right _ (I.hold p hp)⟩, fun p hp => List.mem_append_right _ hp, hv, hd, mem⟩
    · rcases List.mem_append.mp hp with hp | hp
      · exact List.mem_append_left _ ((mem p).mp hp)
      · exact List.mem_append_right _ hp
    · have := h4 _ m (.val t) v [] mono (fun _ _ => rfl) hv (.val hd)
      simpa using this
    · simp only [List.map_append]
      rw [List.append_assoc, List.nodup_append] at hnd
      obtain ⟨n1, n2, n3⟩ := hnd
      rw [List.nodup_append] at n2
      exact List.nodup_append.mpr ⟨n1, n2.2.1, fun a ha b hb => n3 a ha b (List.mem_append_right _ hb)⟩
    · intro p hp q hq
      rcases List.mem_append.mp hq with hq | hq
      · intro z
        rw [List.append_assoc, List.nodup_append] at hnd
        obtain ⟨n1, n2, n3⟩ := hnd
        rw [List.nodup_append] at n2
        rcases List.mem_append.mp hp with hp | hp
        · exact n3 p.1 (List.mem_map_of_mem hp) q.1 (List.mem_append_left _ (List.mem_map_of_mem hq)) z
        · exact n2.2.2 q.1 (List.mem_map_of_mem hq) p.1 (List.mem_map_of_mem hp) z.symm
      · refine I.S.off p ?_ q hq
        rcases List.mem_append.mp hp with hp | hp
        · exact List.mem_append_left _ (List.mem_append_left _ hp)
        · exact List.mem_append_right _ hp

/-- a name is bound anew -/
theorem Inv.bind (I : Inv G h₀ L h m own fr aux W ρ) {x : PySem.Str} {sl : Slot} {v : Value} {c : Led} (F : Fr h₀ L h' (fun y => if y = x then some v else m y)) (N : News h₀ L h' (own ++ fr ++ aux)) (hc : ∀ p ∈ c, h'.get? p.1 = some p.2 ∧ p.1 ≠ L ∧ h₀.get? p.1 = none)
    (hs : SlotR G (PF h₀ fr) sl v c) (nd : (c.map (·.1)).Nodup) (hn : ∀ p ∈ c, ∀ q ∈ own ++ fr, p.1 ≠ q.1) (hW : ∀ p ∈ c, p.1 ∉ W) :
    ∃ own', Inv G h₀ L h' (fun y => if y = x then some v else m y) own' fr aux W (upd x sl ρ) := by
  obtain ⟨o1, c0, o2, h1, _, _, h4⟩ := I.S.loc.at x I.S.nd
  subst h1
  have sub : ∀ p, p ∈ o1 ++ o2 → p ∈ o1 ++ c0 ++ o2 := fun p hp => by
    rcases List.mem_append.mp hp with hp | hp <;> simp [hp]
  have mem : ∀ p, p ∈ o1 ++ c ++ o2 → p ∈ c ∨ p ∈ o1 ++ o2 := fun p hp => by
    simp only [List.mem_append] at hp ⊢
    rcases hp with (a | a) | a <;> simp [a]
  have hnd := I.S.ndo
  simp only [List.map_append] at hnd
  rw [List.append_assoc, List.nodup_append] at hnd
  obtain ⟨n1, n2, n3⟩ := hnd
  rw [List.nodup_append] at n2
  refine ⟨o1 ++ c ++ o2, ⟨F, fun p hp => ?_, ⟨h4 _ _ sl v c (fun _ _ q => q) (fun y hy => by rw [if_neg hy]) (by rw [if_pos rfl]) hs, upd_nodup _ _ _ I.S.nd, ?_, fun p hp q hq => ?_, fun p hp => ?_⟩, I.live, I.cover, I.outs, I.hold⟩⟩
  · rcases List.mem_append.mp hp with hp | hp
    · rcases List.mem_append.mp hp with hp | hp
      · rcases mem p hp with hp | hp
        · exact hc p hp
        · exact N p (List.mem_append_left _ (List.mem_append_left _ (sub p hp)))
      · exact N p (List.mem_append_left _ (List.mem_append_right _ hp))
    · exact N p (List.mem_append_right _ hp)
  · simp only [List.map_append]
    rw [List.append_assoc, List.nodup_append]
    refine ⟨n1, List.nodup_append.mpr ⟨nd, n2.2.1, fun a ha b hb => ?_⟩, fun a ha b hb => ?_⟩
    · obtain ⟨p, hp, rfl⟩ := List.mem_map.mp ha
      obtain ⟨q, hq, rfl⟩ := List.mem_map.mp hb
      exact hn p hp q (List.mem_append_left _ (List.mem_append_right _ hq))
    · rcases List.mem_append.mp hb with hb | hb
      · obtain ⟨p, hp, rfl⟩ := List.mem_map.mp hb
        obtain ⟨q, hq, rfl⟩ := List.mem_map.mp ha
        exact (hn p hp q (List.mem_append_left _ (List.mem_append_left _ (List.mem_append_left _ hq)))).symm
      · exact n3 a ha b (List.mem_append_right _ hb)
  · rcases mem p hp with hp | hp
    · exact hn p hp q (List.mem_append_right _ hq)
    · exact I.S.off p (sub p hp) q hq
  · rcases List.mem_append.mp hp with hp | hp
    · rcases mem p hp with hp | hp
      · exact hW p hp
      · exact I.S.offW p (List.mem_append_left _ (sub p hp))
    · exact I.S.offW p (List.mem_append_right _ hp)
end


section
variable {G : Wo} {h₀ h h' : Heap} {L : Addr} {m : PySem.Str → Option Value} {own fr aux : Led} {W : List Addr} {ρ : Loc}
/-- the objects that a name alone holds are written -/
theorem Inv.change (I : Inv G h₀ L h m own fr aux W ρ) {x : PySem.Str} {t : Tr} (e : look x ρ = some (.mu t)) :
    ∃ v c, m x = some v ∧ Cell G (PF h₀ fr) t v c ∧ (∀ p ∈ c, p ∈ own) ∧ ∀ {h' : Heap} {t' : Tr} {c' : Led}, c'.map (·.1) = c.map (·.1) → (∀ b o, b ∉ c.map (·.1) → h.get? b = some o → h'.get? b = some o) →
      (∀ p ∈ c', h'.get? p.1 = some p.2) → Cell G (PF h₀ fr) t' v c' → ∃ own', Inv G h₀ L h' m own' fr aux W (upd x (.mu t') ρ) := by
  obtain ⟨o1, c, o2, h1, _, h3, h4⟩ := I.S.loc.at x I.S.nd
  obtain ⟨v, hv, hs⟩ := h3 _ e
  subst h1
  cases hs with
  | mu hc =>
    refine ⟨v, c, hv, hc, fun p hp => by simp [hp], ?_⟩
    intro h' t' c' ha hk hc' hcell
    have inC : ∀ a, a ∈ c.map (·.1) → ∃ o, (a, o) ∈ c := fun a hm => by
      obtain ⟨q, hq, rfl⟩ := List.mem_map.mp hm
      exact ⟨q.2, hq⟩
    have hnd := I.S.ndo
    simp only [List.map_append] at hnd
    have hnd' := hnd
    rw [List.append_assoc, List.nodup_append] at hnd
    obtain ⟨n1, n2, n3⟩ := hnd
    rw [List.nodup_append] at n2
    have off12 : ∀ p ∈ o1 ++ o2, p.1 ∉ c.map (·.1) := fun p hp hm => by
      rcases List.mem_append.mp hp with hp | hp
      · exact n3 p.1 (List.mem_map_of_mem hp) p.1 (List.mem_append_left _ hm) rfl
      · exact n2.2.2 p.1 hm p.1 (List.mem_map_of_mem hp) rfl
    have offF : ∀ p ∈ fr, p.1 ∉ c.map (·.1) := fun p hp hm => by
      obtain ⟨o, ho⟩ := inC _ hm
      exact I.S.off (p.1, o) (by simp [ho]) p hp rfl
    have offX : ∀ p ∈ aux, p.1 ∉ c.map (·.1) := fun p hp hm => by
      obtain ⟨o, ho⟩ := inC _ hm
      exact I.S.offW (p.1, o) (by simp [ho]) (I.cover p hp)
    have offL : L ∉ c.map (·.1) := fun hm => by
      obtain ⟨o, ho⟩ := inC _ hm
      exact (I.N (L, o) (by simp [ho])).2.1 rfl
    have off0 : ∀ b o, h₀.get? b = some o → b ∉ c.map (·.1) := fun b o hb hm => by
      obtain ⟨o', ho⟩ := inC _ hm
      rw [(I.N (b, o') (by simp [ho])).2.2] at hb
      cases hb
    have F' : Fr h₀ L h' m := by
      obtain ⟨oL, a1, a2, hL, a3⟩ := I.F.ns
      exact ⟨⟨oL, a1, a2, hk _ _ offL hL, a3⟩, fun b o hb => hk b o (off0 b o hb) (I.F.keep b o hb), I.F.above⟩
    have kept : ∀ p, p.1 ∉ c.map (·.1) → p ∈ o1 ++ c ++ o2 ++ fr ++ aux → h'.get? p.1 = some p.2 ∧ p.1 ≠ L ∧ h₀.get? p.1 = none := fun p hp hm => ⟨hk _ _ hp (I.N p hm).1, (I.N p hm).2⟩
    have newC : ∀ p ∈ c', h'.get? p.1 = some p.2 ∧ p.1 ≠ L ∧ h₀.get? p.1 = none := fun p hp => by
      have hm : p.1 ∈ c.map (·.1) := ha ▸ List.mem_map_of_mem hp
      obtain ⟨o, ho⟩ := inC _ hm
      exact ⟨hc' p hp, (I.N (p.1, o) (by simp [ho])).2⟩
    refine ⟨o1 ++ c' ++ o2, F', fun p hp => ?_, ⟨h4 _ m (.mu t') v c' (fun _ _ q => q) (fun _ _ => rfl) hv (.mu hcell), upd_nodup _ _ _ I.S.nd, by simpa only [List.map_append, ha] using hnd', fun p hp q hq => ?_, fun p hp => ?_⟩, I.live, I.cover, I.outs, I.hold⟩
    · simp only [List.mem_append] at hp
      rcases hp with (((hp | hp) | hp) | hp) | hp
      · exact kept p (off12 p (by simp [hp])) (by simp [hp])
      · exact newC p hp
      · exact kept p (off12 p (by simp [hp])) (by simp [hp])
      · exact kept p (offF p hp) (by simp [hp])
      · exact kept p (offX p hp) (by simp [hp])
    · simp only [List.mem_append] at hp
      rcases hp with (hp | hp) | hp
      · exact I.S.off p (by simp [hp]) q hq
      · intro z
        exact offF q hq (z ▸ ha ▸ List.mem_map_of_mem hp)
      · exact I.S.off p (by simp [hp]) q hq
    · simp only [List.mem_append] at hp
      rcases hp with ((hp | hp) | hp) | hp
      · exact I.S.offW p (by simp [hp])
      · have hm : p.1 ∈ c.map (·.1) := ha ▸ List.mem_map_of_mem hp
        obtain ⟨o, ho⟩ := inC _ hm
        exact I.S.offW (p.1, o) (by simp [ho])
      · exact I.S.offW p (by simp [hp])
      · exact I.S.offW p (by simp [hp])

theorem LocR.filt {P : Facts} {m : PySem.Str → Option Value} (k : PySem.Str × Slot → Bool) {ρ : Loc} {own : Led} (r : LocR G P m ρ own) : ∃ own', LocR G P m (ρ.filter k) own' ∧ own'.Sublist own := by
  induction r with
  | nil => exact ⟨[], .nil, .slnil⟩
  | @cons x sl v c ρ own e d _ ih =>
    obtain ⟨o', r', s'⟩ := ih
    by_cases q : k (x, sl) = true
    · rw [List.filter_cons_of_pos q]
      exact ⟨c ++ o', .cons e d r', (List.append_sublist_append_left c).mpr s'⟩
    · rw [List.filter_cons_of_neg q]
      exact ⟨o', r', s'.trans (List.sublist_append_right c own)⟩
theorem Inv.filt (I : Inv G h₀ L h m own fr aux W ρ) (k : PySem.Str × Slot → Bool) : ∃ own', Inv G h₀ L h m own' fr aux W (ρ.filter k) ∧ ∀ p ∈ own', p ∈ own := by
  obtain ⟨own', r, s⟩ := I.S.loc.filt k
  refine ⟨own', ⟨I.F, fun p hp => I.N p ?_, ⟨r, (List.filter_sublist.map _).nodup I.S.nd, (s.map _).nodup I.S.ndo, fun p hp => I.S.off p (s.subset hp), fun p hp => I.S.offW p ?_⟩, I.live, I.cover, I.outs, I.hold⟩, fun p hp => s.subset hp⟩
  · simp only [List.mem_append] at hp ⊢
    rcases hp with (hp | hp) | hp
    · exact .inl (.inl (s.subset hp))
    · simp [hp]
    · simp [hp]
  · simp only [List.mem_append] at hp ⊢
    exact hp.imp (fun q => s.subset q) id

/-- more things that must stay -/
theorem Inv.guard (I : Inv G h₀ L h m own fr aux W ρ) {x : Led} (hx : ∀ p ∈ x, h.get? p.1 = some p.2 ∧ p.1 ≠ L ∧ h₀.get? p.1 = none) (ho : ∀ p ∈ own ++ fr, ∀ q ∈ x, p.1 ≠ q.1) : Inv G h₀ L h m own fr (x ++ aux) (x.map (·.1) ++ W) ρ := by
  refine ⟨I.F, fun p hp => ?_, ⟨I.S.loc, I.S.nd, I.S.ndo, I.S.off, fun p hp hm => ?_⟩, fun b hb => ?_, fun q hq => ?_, fun a ha => let ⟨o, h1, h2⟩ := I.outs a ha; ⟨o, List.mem_append_right _ h1, h2⟩, I.hold⟩
  · simp only [List.mem_append] at hp
    rcases hp with (hp | hp) | hp | hp
    · exact I.N p (by simp [hp])
    · exact I.N p (by simp [hp])
    · exact hx p hp
    · exact I.N p (by simp [hp])
  · rcases List.mem_append.mp hm with hm | hm
    · obtain ⟨q, hq, e⟩ := List.mem_map.mp hm
      exact ho p hp q hq e.symm
    · exact I.S.offW p hp hm
  · rcases List.mem_append.mp hb with hb | hb
    · obtain ⟨q, hq, rfl⟩ := List.mem_map.mp hb
      exact ⟨q.2, List.mem_append_left _ hq⟩
    · obtain ⟨o, ho⟩ := I.live b hb
      exact ⟨o, List.mem_append_right _ ho⟩
  · rcases List.mem_append.mp hq with hq | hq
    · exact List.mem_append_left _ (List.mem_map_of_mem hq)
    · exact List.mem_append_right _ (I.cover q hq)
/-- and no more -/
theorem Inv.unguard {x : Led} {m' : PySem.Str → Option Value} {own' fr' : Led} {ρ' : Loc} (I : Inv G h₀ L h m own fr (x ++ aux) (x.map (·.1) ++ W) ρ) (J : Inv G h₀ L h' m' own' fr' aux W ρ') : Inv G h₀ L h m own fr aux W ρ := by
  refine ⟨I.F, fun p hp => I.N p ?_, ⟨I.S.loc, I.S.nd, I.S.ndo, I.S.off, fun p hp hm => I.S.offW p hp (List.mem_append_right _ hm)⟩, J.live, J.cover, J.outs, I.hold⟩
  simp only [List.mem_append] at hp ⊢
  rcases hp with (hp | hp) | hp <;> simp [hp]
end

/-- the words of two frames are the same -/
structure Wo.Like (G G' : Wo) : Prop where
  pm : G.pm = G'.pm
  ipC : G.ipC = G'.ipC
  exC : G.exC = G'.exC
theorem Wo.Like.symm {G G' : Wo} (x : G.Like G') : G'.Like G := ⟨x.pm.symm, x.ipC.symm, x.exC.symm⟩
mutual
theorem Den.like {G G' : Wo} {P : Facts} (k : G.Like G') : ∀ {t : Tr} {v : Value}, Den G P t v → Den G' P t v
  | .none, _, x => x
  | .bool _, _, x => x
  | .int _, _, x => x
  | .str _, _, x => x
  | .bytes _, _, x => x
  | .list xs, _, x => by
    obtain ⟨a, o, vs, e, p, c, n, d⟩ := x
    exact ⟨a, o, vs, e, p, c, n, DenL.like k d⟩
  | .tup xs, _, x => by
    obtain ⟨a, o, vs, e, p, c, n, d⟩ := x
    exact ⟨a, o, vs, e, p, c, n, DenL.like k d⟩
  | .ip fs, _, x => by
    obtain ⟨a, d, vs, n, ts, e, p, q, dd, r⟩ := x
    exact ⟨a, d, vs, n, ts, e, k.ipC ▸ p, k.pm ▸ q, DenL.like k dd, r⟩
  | .exc _, _, x => by
    obtain ⟨a, o, d, es, n, t, e, p, ⟨c, c1, c2, c3⟩, pd, r⟩ := x
    exact ⟨a, o, d, es, n, t, e, p, ⟨c, c1, k.exC ▸ c2, c3⟩, pd, r⟩
  | .slice _ _, _, x => x
theorem DenL.like {G G' : Wo} {P : Facts} (k : G.Like G') : ∀ {xs : List Tr} {vs : List Value}, DenL G P xs vs → DenL G' P xs vs
  | [], _, x => x
  | _ :: _, _, x => by
    obtain ⟨v, r, e, d, dl⟩ := x
    exact ⟨v, r, e, Den.like k d, DenL.like k dl⟩
end
theorem Cell.like {G G' : Wo} {P : Facts} (k : G.Like G') {t : Tr} {v : Value} {c : Led} (x : Cell G P t v c) : Cell G' P t v c := by
  cases x with
  | list d => exact .list (d.like k)
  | ip d e f => rw [k.ipC, k.pm]; exact .ip (d.like k) e f
end Mine
end
section
open PySem PySem.W PySem.Spec PySem.Calls PyProof.Rows
set_option Elab.async false
namespace Mine
set_option maxRecDepth 100000

noncomputable abbrev Spec := List Tr → (Tr → Prop) → (Addr → PySem.Str → Prop) → Prop
noncomputable abbrev QE := Tr → Loc → Prop
noncomputable abbrev XE := Addr → PySem.Str → Loc → Prop

noncomputable def big : Nat := 16777216

noncomputable def intW (op : Operator) (a b : Int) (Q : Tr → Prop) : Prop :=
  match op with
  | .Add => Q (.int (a + b))
  | .Sub => Q (.int (a - b))
  | .Mult => IntMulOk a b ∧ Q (.int (a * b))
  | .FloorDiv => 0 < b ∧ b.natAbs.log2 < 9000 ∧ Q (.int (a / b))
  | .Mod => 0 < b ∧ Q (.int (a % b))
  | .LShift => 0 ≤ b ∧ (Builtin.Int.intBits a : Int) + b ≤ 2 ^ 27 ∧ Q (.int (a * 2 ^ b.toNat))
  | .RShift => 0 ≤ b ∧ Q (.int (a / 2 ^ b.toNat))
  | .BitAnd => Q (.int (Builtin.bitAnd a b))
  | .BitOr => Q (.int (Builtin.bitOr a b))
  | .Pow => 0 ≤ b ∧ (Builtin.Int.intBits a : Int) * b ≤ 2 ^ 27 ∧ Q (.int (a ^ b.toNat))
  | _ => False

/-- two values joined by an operator -/
noncomputable def binW (op : Operator) (a b : Tr) (Q : Tr → Prop) : Prop :=
  match a, b with
  | .int a, .int b => intW op a b Q
  | .bytes a, .bytes b => op = .Add ∧ a.length + b.length ≤ big ∧ Q (.bytes (a ++ b))
  | .list a, .list b => op = .Add ∧ a.length + b.length ≤ big ∧ Q (.list (a ++ b))
  | .bytes a, .int n => op = .Mult ∧ a ≠ [] ∧ a.length ≤ 16 ∧ -1000 ≤ n ∧ n ≤ 1000 ∧ Q (.bytes (List.replicate n.toNat a).flatten)
  | .list a, .int n => op = .Mult ∧ -1000 ≤ n ∧ n ≤ 1000 ∧ ∃ i : Int, a = [.int i] ∧ Q (.list (List.replicate n.toNat (.int i)))
  | _, _ => False
/-- x += e -/
noncomputable def augW (op : Operator) (a b : Tr) (Q : Tr → Prop) : Prop :=
  match a, b with
  | .int a, .int b => op = .Add ∧ Q (.int (a + b))
  | .bytes a, .bytes b => op = .Add ∧ a.length + b.length ≤ big ∧ Q (.bytes (a ++ b))
  | _, _ => False

noncomputable def icmpW (op : CmpOp) (a b : Int) (Q : Bool → Prop) : Prop :=
  match op with
  | .Eq => Q (a == b)
  | .NotEq => Q (a != b)
  | .Lt => Q (decide (a < b))
  | .LtE => Q (decide (a ≤ b))
  | .Gt => Q (decide (b < a))
  | .GtE => Q (decide (b ≤ a))
  | _ => False
noncomputable def eqW (op : CmpOp) (c : Bool) (Q : Bool → Prop) : Prop :=
  match op with
  | .Eq => Q c
  | .NotEq => Q (!c)
  | _ => False
noncomputable def eqA (a b : Tr) : Bool :=
  match a, b with
  | .none, .none => true
  | .bool x, .bool y => x == y
  | .int x, .int y => x == y
  | .str x, .str y => x == y
  | .bytes x, .bytes y => x == y
  | _, _ => false
noncomputable def okA (a b : Tr) : Prop :=
  match a, b with
  | .none, .none => True
  | .bool _, .bool _ => True
  | .int _, .int _ => True
  | .str _, .str _ => True
  | .bytes _, .bytes _ => True
  | _, _ => False
noncomputable def eqL (f : Tr → Tr → Bool) : List Tr → List Tr → Bool
  | [], [] => true
  | x :: xs, y :: ys => f x y && eqL f xs ys
  | _, _ => false
noncomputable def okL (f : Tr → Tr → Prop) : List Tr → List Tr → Prop
  | x :: xs, y :: ys => f x y ∧ okL f xs ys
  | _, _ => True
/-- equal, to a depth -/
noncomputable def eqT : Nat → Tr → Tr → Bool
  | 0, a, b => eqA a b
  | d + 1, a, b => (match a, b with
      | .list xs, .list ys => eqL (eqT d) xs ys
      | .tup xs, .tup ys => eqL (eqT d) xs ys
      | a, b => eqA a b)
/-- of kinds whose equality is known -/
noncomputable def okT : Nat → Tr → Tr → Prop
  | 0, a, b => okA a b
  | d + 1, a, b => (match a, b with
      | .list xs, .list ys => xs.length = ys.length → okL (okT d) xs ys
      | .tup xs, .tup ys => okL (okT d) xs ys
      | a, b => okA a b)

/-- a comparison -/
noncomputable def cmpW (op : CmpOp) (a b : Tr) (Q : Bool → Prop) : Prop :=
  match a, b with
  | .int a, .int b => icmpW op a b Q
  | .str a, .str b => eqW op (a == b) Q
  | .bytes a, .bytes b => eqW op (a == b) Q
  | .list a, .list b => okT 3 (.list a) (.list b) ∧ eqW op (eqT 3 (.list a) (.list b)) Q
  | .tup a, .tup b => okT 3 (.tup a) (.tup b) ∧ eqW op (eqT 3 (.tup a) (.tup b)) Q
  | .list _, .none => (match op with
      | .Is => Q false
      | op => eqW op false Q)
  | .tup _, .none => (match op with
      | .Is => Q false
      | op => eqW op false Q)
  | .none, .none => (match op with
      | .Is => Q true
      | op => eqW op true Q)
  | .none, .list _ => eqW op false Q
  | .none, .tup _ => eqW op false Q
  | .int a, .list xs => op = .NotIn ∧ ∃ ns : List Int, xs = ns.map Tr.int ∧ Q (!ns.contains a)
  | _, _ => False

noncomputable def cutL {α : Type} (xs : List α) (lo hi : Option Int) : List α := (xs.take ((hi.map (·.toNat)).getD xs.length)).drop ((lo.map (·.toNat)).getD 0)
noncomputable def nonNeg : Option Int → Prop
  | none => True
  | some i => 0 ≤ i
/-- v[k] -/
noncomputable def itemW (v k : Tr) (Q : Tr → Prop) : Prop :=
  match k with
  | .int k => 0 ≤ k ∧ k < big ∧ (match v with
      | .list xs => ∃ x, xs[k.toNat]? = some x ∧ Q x
      | .tup xs => ∃ x, xs[k.toNat]? = some x ∧ Q x
      | .bytes ks => ks.length ≤ big ∧ ∃ x, ks[k.toNat]? = some x ∧ Q (.int x)
      | _ => False)
  | .slice lo hi => nonNeg lo ∧ nonNeg hi ∧ (match v with
      | .list xs => xs.length ≤ big ∧ Q (.list (cutL xs lo hi))
      | .bytes ks => ks.length ≤ big ∧ Q (.bytes (cutL ks lo hi))
      | _ => False)
  | _ => False

noncomputable def iL (ns : List Int) : Tr := .list (ns.map Tr.int)

/-- the built-in functions -/
noncomputable def lenW (v : Tr) (Q : Tr → Prop) : Prop :=
  match v with
  | .list xs => xs.length ≤ big ∧ Q (.int xs.length)
  | .bytes ks => ks.length ≤ big ∧ Q (.int ks.length)
  | _ => False
noncomputable def bytesW (v : Tr) (Q : Tr → Prop) : Prop :=
  match v with
  | .list xs => ∃ ns : List Int, xs = ns.map Tr.int ∧ (∀ n ∈ ns, 0 ≤ n ∧ n < 256) ∧ ns.length ≤ big ∧ Q (.bytes ns)
  | .bytes ks => Q (.bytes ks)
  | _ => False
noncomputable def listW (v : Tr) (Q : Tr → Prop) : Prop :=
  match v with
  | .bytes ks => ks.length ≤ big ∧ Q (.list (ks.map Tr.int))
  | _ => False
noncomputable def builtW (f : PySem.Str) (v : Tr) (Q : Tr → Prop) : Prop :=
  match f == "len" with
  | true => lenW v Q
  | false => (match f == "bytes" with
      | true => bytesW v Q
      | false => listW v Q)
noncomputable def isBuilt (f : PySem.Str) : Bool := f == "len" || f == "bytes" || f == "list"

noncomputable def ipIx (x : PySem.Str) : Nat := ipNames.findIdx (· == x)
/-- an field is written: there already, or the next one -/
noncomputable def setIp : List Tr → Nat → Tr → List Tr
  | [], 0, t => [t]
  | [], _ + 1, _ => []
  | _ :: xs, 0, t => t :: xs
  | x :: xs, n + 1, t => x :: setIp xs n t
noncomputable def attrW (a : PySem.Str) : Tr → (Tr → Prop) → Prop
  | .ip fs, Q => ∃ x, fs[ipIx a]? = some x ∧ Q x
  | .exc why, Q => a = "why" ∧ Q (.str why)
  | _, _ => False

noncomputable def borrow (ρ : Loc) : Expr → Option Tr
  | .Name x _ => (match look x ρ with
      | some (.val t) => some t
      | some (.mu t) => some t
      | none => none)
  | _ => none

noncomputable def borrowL (ρ : Loc) : List Expr → Option Tr
  | [e] => borrow ρ e
  | _ => none
noncomputable def oneT : List Tr → (Tr → Prop) → Prop
  | [t], K => K t
  | _, _ => False
noncomputable def nameOf : Expr → PySem.Str
  | .Name x _ => x
  | _ => ""

section
variable (Γ : PySem.Str → Option Spec)
mutual
noncomputable def wpE : Expr → Loc → QE → XE → Prop
  | .Constant c _ _, ρ, Q, _ => (match c with
      | .int i => Q (.int i) ρ
      | .str x => Q (.str x) ρ
      | .bytes b => Q (.bytes (b.map fun c => (c.toNat : Int))) ρ
      | .none => Q .none ρ
      | .bool b => Q (.bool b) ρ
      | _ => False)
  | .Name x _, ρ, Q, _ => (match look x ρ with
      | some (.val t) => Q t ρ
      | some (.mu t) => Q t (upd x (.val t) ρ)
      | none => False)
  | .BinOp l op r _, ρ, Q, X => wpE l ρ (fun a ρ1 => wpE r ρ1 (fun b ρ2 => binW op a b fun t => Q t ρ2) X) X
  | .UnaryOp op e _, ρ, Q, X => wpE e ρ (fun a ρ1 => match op, a with
      | .USub, .int i => Q (.int (-i)) ρ1
      | _, _ => False) X
  | .IfExp t a b _, ρ, Q, X => wpT t ρ (fun c ρ1 => (c = true → wpE a ρ1 Q X) ∧ (c = false → wpE b ρ1 Q X)) X
  | .Compare l ops rs _, ρ, Q, X => wpE l ρ (fun a ρ1 => wpC a ops rs ρ1 (fun c ρ2 => Q (.bool c) ρ2) X) X
  | .Call f args [] _, ρ, Q, X => (match isBuilt (nameOf f) with
      | true => (match borrowL ρ args with
          | some t => builtW (nameOf f) t fun t => Q t ρ
          | none => wpL args ρ (fun ts ρ1 => oneT ts fun t => builtW (nameOf f) t fun t => Q t ρ1) X)
      | false => (match Γ (nameOf f) with
          | some sp => wpL args ρ (fun ts ρ1 => sp ts (fun t => Q t ρ1) fun c y => X c y ρ1) X
          | none => False))
  | .Slice lo hi none _, ρ, Q, X => wpO lo ρ (fun l ρ1 => wpO hi ρ1 (fun u ρ2 => Q (.slice l u) ρ2) X) X
  | .Subscript v i _, ρ, Q, X => (match borrow ρ v with
      | some t => wpE i ρ (fun k ρ1 => itemW t k fun t => Q t ρ1) X
      | none => wpE v ρ (fun t ρ0 => wpE i ρ0 (fun k ρ1 => itemW t k fun t => Q t ρ1) X) X)
  | .Attribute e a _, ρ, Q, X => wpE e ρ (fun t ρ1 => attrW a t fun t => Q t ρ1) X
  | .Tuple es _ _, ρ, Q, X => wpL es ρ (fun ts ρ1 => Q (.tup ts) ρ1) X
  | .List es _, ρ, Q, X => wpL es ρ (fun ts ρ1 => Q (.list ts) ρ1) X
  | _, _, _, _ => False
noncomputable def wpL : List Expr → Loc → (List Tr → Loc → Prop) → XE → Prop
  | [], ρ, Q, _ => Q [] ρ
  | e :: es, ρ, Q, X => wpE e ρ (fun t ρ1 => wpL es ρ1 (fun ts ρ2 => Q (t :: ts) ρ2) X) X
noncomputable def wpO : Option Expr → Loc → (Option Int → Loc → Prop) → XE → Prop
  | none, ρ, Q, _ => Q none ρ
  | some e, ρ, Q, X => wpE e ρ (fun t ρ1 => match t with
      | .int i => Q (some i) ρ1
      | _ => False) X
noncomputable def wpC (a : Tr) : List CmpOp → List Expr → Loc → (Bool → Loc → Prop) → XE → Prop
  | op :: ops, r :: rs, ρ, Q, X => wpE r ρ (fun b ρ1 => cmpW op a b fun c => match rs with
      | [] => Q c ρ1
      | _ => (c = true → wpC b ops rs ρ1 Q X) ∧ (c = false → Q false ρ1)) X
  | _, _, _, _, _ => False
noncomputable def wpT : Expr → Loc → (Bool → Loc → Prop) → XE → Prop
  | .Compare l ops rs _, ρ, Q, X => wpE l ρ (fun a ρ1 => wpC a ops rs ρ1 Q X) X
  | .BoolOp op es _, ρ, Q, X => wpTs op es ρ Q X
  | .UnaryOp .Not e _, ρ, Q, X => wpT e ρ (fun c ρ1 => Q (!c) ρ1) X
  | _, _, _, _ => False
noncomputable def wpTs (op : BoolOp) : List Expr → Loc → (Bool → Loc → Prop) → XE → Prop
  | [], ρ, Q, _ => Q (op == .And) ρ
  | e :: es, ρ, Q, X => wpT e ρ (fun c ρ1 => (c = (op == .And) → wpTs op es ρ1 Q X) ∧ (c = (op != .And) → Q c ρ1)) X
end
end

inductive Fl where
  | next
  | cont
  | ret (t : Tr)
  | retm (x : PySem.Str) (t : Tr)

noncomputable abbrev MSpec := Tr → List Tr → (Tr → Prop) → Prop

/-- what a function body may call: plain defs and classes; defs whose answer is new; defs that turn their first argument; exception classes -/
structure Sig where
  fn : PySem.Str → Option Spec
  new : PySem.Str → Bool
  mu : PySem.Str → Option MSpec
  ex : PySem.Str → Option Addr

noncomputable def rangeL (a b c : Int) : List Int := (List.range ((b - a + c - 1) / c).toNat).map fun (i : Nat) => a + (i : Int) * c
noncomputable def rangeW : List Tr → (List Tr → Prop) → Prop
  | [.int n], Q => -big ≤ n ∧ n ≤ big ∧ Q ((rangeL 0 n 1).map Tr.int)
  | [.int a, .int b, .int c], Q => 0 < c ∧ 0 ≤ a ∧ a ≤ big ∧ -big ≤ b ∧ b ≤ big ∧ c ≤ big ∧ Q ((rangeL a b c).map Tr.int)
  | _, _ => False

noncomputable def unpackL : List Expr → List Tr → Loc → Option Loc
  | [], [], ρ => some ρ
  | e :: es, t :: ts, ρ => unpackL es ts (upd (nameOf e) (.val t) ρ)
  | _, _, _ => none
noncomputable def bindT : Expr → Tr → Loc → Option Loc
  | .Name x _, t, ρ => some (upd x (.val t) ρ)
  | .Tuple es _ _, .tup ts, ρ => unpackL es ts ρ
  | .Tuple es _ _, .list ts, ρ => unpackL es ts ρ
  | _, _, _ => none
noncomputable def namesIn : Expr → List PySem.Str
  | .Name x _ => [x]
  | .Tuple es _ _ => es.map nameOf
  | _ => []
noncomputable def dels (ns : List PySem.Str) (ρ : Loc) : Loc := ρ.filter fun p => !ns.contains p.1

theorem nope {α : Type} {x : α} {P : Prop} (h : none = some x) : P := nomatch h
noncomputable def asName : Expr → Option PySem.Str
  | .Name x _ => some x
  | _ => none
theorem asName_of {e : Expr} {x : PySem.Str} (h : asName e = some x) : ∃ p, e = .Name x p := by
  cases e <;> first | exact nope h | skip
  cases h
  exact ⟨_, rfl⟩
noncomputable def nameW (e : Expr) (K : PySem.Str → Prop) : Prop :=
  match asName e with
  | some x => K x
  | none => False
theorem nameW_of {e : Expr} {K : PySem.Str → Prop} (h : nameW e K) : ∃ x p, e = .Name x p ∧ K x := by
  unfold nameW at h
  cases hx : asName e with
  | none => rw [hx] at h; exact h.elim
  | some x =>
    rw [hx] at h
    obtain ⟨p, hp⟩ := asName_of hx
    exact ⟨x, p, hp, h⟩
/-- what a raise statement makes: the class's name, the words -/
noncomputable def asStr : Expr → Option PySem.Str
  | .Constant c _ _ => (match c with
      | .str y => some y
      | _ => none)
  | _ => none
theorem asStr_of {e : Expr} {y : PySem.Str} (h : asStr e = some y) : ∃ k p, e = .Constant (.str y) k p := by
  cases e <;> first | exact nope h | skip
  rename_i c k p
  cases c <;> first | exact nope h | skip
  cases h
  exact ⟨k, p, rfl⟩
noncomputable def asCall : Expr → Option (Expr × Expr)
  | .Call f [a] [] _ => some (f, a)
  | _ => none
theorem asCall_of {e f a : Expr} (h : asCall e = some (f, a)) : ∃ p, e = .Call f [a] [] p := by
  cases e <;> first | exact nope h | skip
  rename_i f as ks p
  rcases as with _ | ⟨a, _ | ⟨_, _⟩⟩
  · exact nope h
  · cases ks <;> cases h
    exact ⟨p, rfl⟩
  · exact nope h
noncomputable def raisedE (e : Expr) : Option (PySem.Str × PySem.Str) :=
  match asCall e with
  | some p => (match asName p.1 with
      | some f => (match asStr p.2 with
          | some y => some (f, y)
          | none => none)
      | none => none)
  | none => none
noncomputable def raised (e c : Option Expr) : Option (PySem.Str × PySem.Str) :=
  match c with
  | none => e.bind raisedE
  | some _ => none
theorem raised_of {e c : Option Expr} {f y : PySem.Str} (h : raised e c = some (f, y)) : ∃ p1 k p2 p3, e = some (.Call (.Name f p1) [.Constant (.str y) k p2] [] p3) ∧ c = none := by
  cases c with
  | some _ => exact nope h
  | none =>
    cases e with
    | none => exact nope h
    | some e =>
      replace h : raisedE e = some (f, y) := h
      unfold raisedE at h
      cases hc : asCall e with
      | none => rw [hc] at h; exact nope h
      | some q =>
        obtain ⟨g, a⟩ := q
        obtain ⟨p3, rfl⟩ := asCall_of hc
        rw [hc] at h
        replace h : (match asName g with
          | some f => (match asStr a with
              | some y => some (f, y)
              | none => none)
          | none => none) = some (f, y) := h
        cases hn : asName g with
        | none => rw [hn] at h; exact nope h
        | some f' =>
          obtain ⟨p1, rfl⟩ := asName_of hn
          rw [hn] at h
          cases hs : asStr a with
          | none => rw [hs] at h; exact nope h
          | some y' =>
            obtain ⟨k, p2, rfl⟩ := asStr_of hs
            rw [hs] at h
            cases h
            exact ⟨p1, k, p2, p3, rfl, rfl⟩

section
variable (Γ : Sig)
noncomputable def iterW (it : Expr) (ρ : Loc) (Q : List Tr → Loc → Prop) (X : XE) : Prop :=
  let plain := wpE Γ.fn it ρ (fun t ρ1 => match t with
    | .list xs => xs.length ≤ big ∧ Q xs ρ1
    | .bytes ks => ks.length ≤ big ∧ Q (ks.map Tr.int) ρ1
    | _ => False) X
  match it with
  | .Call f args [] _ => (match nameOf f == "range" with
      | true => wpL Γ.fn args ρ (fun ts ρ1 => rangeW ts fun xs => Q xs ρ1) X
      | false => plain)
  | _ => plain

/-- x = e, where x may hold what is new alone -/
noncomputable def newW (e : Expr) (ρ : Loc) (Q : Slot → Loc → Prop) (X : XE) : Prop :=
  match e with
  | .List es _ => wpL Γ.fn es ρ (fun ts ρ1 => Q (.mu (.list ts)) ρ1) X
  | .BinOp l op r _ => wpE Γ.fn l ρ (fun a ρ1 => wpE Γ.fn r ρ1 (fun b ρ2 => match op, a, b with
      | .Add, .list xs, .list ys => xs.length + ys.length ≤ big ∧ Q (.mu (.list (xs ++ ys))) ρ2
      | _, _, _ => binW op a b fun t => Q (.val t) ρ2) X) X
  | .Call f args [] _ => (match Γ.new (nameOf f) with
      | true => (match Γ.fn (nameOf f) with
          | some sp => wpL Γ.fn args ρ (fun ts ρ1 => sp ts (fun t => Q (.mu t) ρ1) fun c y => X c y ρ1) X
          | none => False)
      | false => wpE Γ.fn e ρ (fun t ρ1 => Q (.val t) ρ1) X)
  | _ => wpE Γ.fn e ρ (fun t ρ1 => Q (.val t) ρ1) X

noncomputable def asgW (t e : Expr) (ρ : Loc) (Q : Loc → Prop) (X : XE) : Prop :=
  match t with
  | .Name x _ => newW Γ e ρ (fun sl ρ1 => Q (upd x sl ρ1)) X
  | .Tuple es _ _ => wpE Γ.fn e ρ (fun t ρ1 => match t with
      | .tup vs => ∃ ρ2, unpackL es vs ρ1 = some ρ2 ∧ Q ρ2
      | .list vs => ∃ ρ2, unpackL es vs ρ1 = some ρ2 ∧ Q ρ2
      | _ => False) X
  | .Subscript v i _ => nameW v fun x => wpE Γ.fn e ρ (fun t ρ1 => match look x ρ1 with
      | some (.mu (.list xs)) => wpE Γ.fn i ρ1 (fun k ρ2 => look x ρ2 = some (.mu (.list xs)) ∧ (match k with
          | .int k => 0 ≤ k ∧ k < xs.length ∧ k < big ∧ Q (upd x (.mu (.list (xs.set k.toNat t))) ρ2)
          | _ => False)) X
      | _ => False) X
  | .Attribute v a _ => nameW v fun x => wpE Γ.fn e ρ (fun t ρ1 => match look x ρ1 with
      | some (.mu (.ip fs)) => ipIx a ≤ fs.length ∧ ipIx a < 11 ∧ Q (upd x (.mu (.ip (setIp fs (ipIx a) t))) ρ1)
      | _ => False) X
  | _ => False
noncomputable def assignW (ts : List Expr) (e : Expr) (ρ : Loc) (Q : Loc → Prop) (X : XE) : Prop :=
  match ts with
  | [t] => asgW Γ t e ρ Q X
  | _ => False

noncomputable def appW (x : PySem.Str) (v : Expr) (ρ : Loc) (Q : Loc → Prop) (X : XE) : Prop :=
  match look x ρ with
  | some (.mu (.list xs)) => wpE Γ.fn v ρ (fun t ρ1 => look x ρ1 = some (.mu (.list xs)) ∧ xs.length < big ∧ Q (upd x (.mu (.list (xs ++ [t]))) ρ1)) X
  | _ => False
noncomputable def turnW (f x : PySem.Str) (args : List Expr) (e : Expr) (ρ : Loc) (Q : Loc → Prop) (X : XE) : Prop :=
  match Γ.mu f, look x ρ with
  | some sp, some (.mu t) => wpL Γ.fn args ρ (fun ts ρ1 => look x ρ1 = some (.mu t) ∧ sp t ts fun t' => Q (upd x (.mu t') ρ1)) X
  | _, _ => wpE Γ.fn e ρ (fun t ρ1 => t = .none ∧ Q ρ1) X
noncomputable def exprW (e : Expr) (ρ : Loc) (Q : Loc → Prop) (X : XE) : Prop :=
  match e with
  | .Call f as [] _ => (match f with
      | .Attribute o a _ => (match as with
          | [v] => nameW o fun x => a = "append" ∧ appW Γ x v ρ Q X
          | _ => False)
      | .Name f _ => (match as with
          | x :: args => nameW x fun x => turnW Γ f x args e ρ Q X
          | [] => False)
      | _ => False)
  | _ => False

noncomputable def retW (e : Option Expr) (ρ : Loc) (Q : Fl → Loc → Prop) (X : XE) : Prop :=
  let plain (e : Expr) : Prop := wpE Γ.fn e ρ (fun t ρ1 => Q (.ret t) ρ1) X
  match e with
  | some (.Name x p) => (match look x ρ with
      | some (.mu t) => Q (.retm x t) ρ
      | _ => plain (.Name x p))
  | some e => plain e
  | none => Q (.ret .none) ρ

noncomputable def raiseW (e c : Option Expr) (ρ : Loc) (X : XE) : Prop :=
  match raised e c with
  | some p => (match Γ.ex p.1 with
      | some C => X C p.2 ρ
      | none => False)
  | none => False

mutual
noncomputable def wpS : Stmt → Loc → (Fl → Loc → Prop) → XE → Prop
  | .Assign ts e _, ρ, Q, X => assignW Γ ts e ρ (Q .next) X
  | .AugAssign t op e _, ρ, Q, X => (match look (nameOf t) ρ with
      | some (.val a) => wpE Γ.fn e ρ (fun b ρ1 => augW op a b fun t' => Q .next (upd (nameOf t) (.val t') ρ1)) X
      | _ => False)
  | .Expr e _, ρ, Q, X => exprW Γ e ρ (Q .next) X
  | .If t a b _, ρ, Q, X => wpT Γ.fn t ρ (fun c ρ1 => (c = true → wpB a ρ1 Q X) ∧ (c = false → wpB b ρ1 Q X)) X
  | .While t body [] _, ρ, Q, X => ∃ I : Nat → Loc → Prop, (∃ n, I n ρ) ∧ ∀ n ρ', I n ρ' → wpT Γ.fn t ρ' (fun c ρ1 =>
      (c = true → wpB body ρ1 (fun fl ρ2 => match fl with
        | .ret t => Q (.ret t) ρ2
        | .retm x t => Q (.retm x t) ρ2
        | _ => ∃ k, k < n ∧ I k ρ2) X) ∧ (c = false → Q .next ρ1)) X
  | .For tg it body [] _, ρ, Q, X => iterW Γ it ρ (fun xs ρ1 => ∃ I : Nat → Loc → Prop, I 0 (dels (namesIn tg) ρ1) ∧
      (∀ i x ρ', xs[i]? = some x → I i ρ' → ∃ ρ2, bindT tg x ρ' = some ρ2 ∧ wpB body ρ2 (fun fl ρ3 => match fl with
        | .ret t => Q (.ret t) ρ3
        | .retm x t => Q (.retm x t) ρ3
        | _ => I (i + 1) (dels (namesIn tg) ρ3)) (fun _ _ _ => False)) ∧
      ∀ ρ', I xs.length ρ' → Q .next ρ') X
  | .Return e _, ρ, Q, X => retW Γ e ρ Q X
  | .Raise e c _, ρ, _, X => raiseW Γ e c ρ X
  | .Continue _, ρ, Q, _ => Q .cont ρ
  | _, _, _, _ => False
noncomputable def wpB : List Stmt → Loc → (Fl → Loc → Prop) → XE → Prop
  | [], ρ, Q, _ => Q .next ρ
  | s :: r, ρ, Q, X => wpS s ρ (fun fl ρ1 => match fl with
      | .next => wpB r ρ1 Q X
      | fl => Q fl ρ1) X
end
end
end Mine
end
section
open PySem PySem.W PySem.Spec PySem.Calls PyProof.Rows
set_option Elab.async false
namespace Mine
set_option tactic.hygienic false
set_option maxRecDepth 100000

/-- what a step that hands on a value must show -/
noncomputable abbrev VPost (G : Wo) (h₀ : Heap) (L : Addr) (m : PySem.Str → Option Value) (own fr aux : Led) (W : List Addr) (ρ : Loc) (s : Shared) (Q : Tr → Prop) (QQ : Value → Shared → Prop) : Prop :=
  ∀ v h' tk' fr' t, Inv G h₀ L h' m own fr' aux W ρ → (∀ p ∈ fr, p ∈ fr') → Den G (PF h₀ fr') t v → Q t → QQ v { s with heap := h', toks := tk' }

theorem fdiv_pos {a b : Int} (h : 0 < b) : a.fdiv b = a / b := Int.fdiv_eq_ediv_of_nonneg a (Int.le_of_lt h)
theorem fmod_pos {a b : Int} (h : 0 < b) : a.fmod b = a % b := Int.fmod_eq_emod_of_nonneg a (Int.le_of_lt h)
theorem big_le : big ≤ sizeLine := by rw [sizeLine_eq]; decide

section
variable {prog : Program} {w : World} {A : Around} {E : Value → Shared → Prop} {s : Shared} {G : Wo} {h₀ : Heap} {L : Addr} {m : PySem.Str → Option Value} {own fr aux : Led} {W : List Addr} {ρ : Loc} {QQ : Value → Shared → Prop}

theorem isList_of (I : Inv G h₀ L s.heap m own fr aux W ρ) {a : Addr} {o : Obj} {vs : List Value} (p : PF h₀ fr a o) (c : o.cls = .type "list") (d : ∃ n, o.data = .seq vs.toArray n) : s.heap.IsList a vs.toArray := ⟨o, I.pf p, c, d⟩
theorem isTup_of (I : Inv G h₀ L s.heap m own fr aux W ρ) {a : Addr} {o : Obj} {vs : List Value} (p : PF h₀ fr a o) (c : o.cls = .type "tuple") (d : ∃ n, o.data = .seq vs.toArray n) : IsTup s.heap a vs.toArray := ⟨o, I.pf p, c, d⟩

theorem Inv.alloc (I : Inv G h₀ L s.heap m own fr aux W ρ) {h' : Heap} {l : Addr} {o : Obj} (F : Fr h₀ L h' m) (N : News h₀ L h' ((l, o) :: (own ++ fr ++ aux))) (hl : s.heap.objs.size ≤ l) : Inv G h₀ L h' m own ((l, o) :: fr) aux W ρ :=
  I.more (x := [(l, o)]) F (fun p hp => N p (by simp only [List.mem_append, List.mem_cons, List.not_mem_nil, or_false] at hp ⊢; rcases hp with (a | a | a) | a <;> simp [a])) fun p hp => by
    rw [List.mem_singleton.mp hp]
    cases q : s.heap.get? l with
    | none => rfl
    | some o' => exact absurd (Heap.lt_size q) (Nat.not_lt.mpr hl)

theorem add_listS {xs ys : List Tr} {va vb : Value} (I : Inv G h₀ L s.heap m own fr aux W ρ) (ha : Den G (PF h₀ fr) (.list xs) va) (hb : Den G (PF h₀ fr) (.list ys) vb) (hz : xs.length + ys.length ≤ big)
    (h : ∀ h' l vs, Fr h₀ L h' m → News h₀ L h' ((l, listOf vs.toArray 0) :: (own ++ fr ++ aux)) → s.heap.objs.size ≤ l → DenL G (PF h₀ fr) (xs ++ ys) vs → QQ (.ref l) { s with heap := h' }) :
    wpAny (model prog w) A (binaryOp .Add va vb) QQ E s := by
  obtain ⟨a, o, vs, rfl, p, c, n, d⟩ := ha
  obtain ⟨b, o', ws, rfl, p', c', n', d'⟩ := hb
  refine add_lists I.F I.N (isList_of I p c n) (isList_of I p' c' n') (fun h' F' N' => ?_) ?_
  · exact h h' _ _ F' N' (Nat.le_refl _) (d.append d')
  · rw [d.length, d'.length]; exact Nat.le_trans hz big_le

theorem bInts_rep (b : Array UInt8) (n : Nat) : KBw.bInts ((List.replicate n b.toList).flatten).toArray = (List.replicate n (KBw.bInts b)).flatten := by
  unfold KBw.bInts
  rw [List.map_flatten, List.map_replicate]
theorem rep_one {α : Type} (n : Nat) (v : α) : (List.replicate n [v]).flatten = List.replicate n v := by
  induction n with
  | zero => rfl
  | succ n ih => rw [List.replicate_succ, List.flatten_cons, ih, List.replicate_succ]; rfl
theorem DenL.rep {P : Facts} {x : Tr} {v : Value} (d : Den G P x v) : ∀ n : Nat, DenL G P (List.replicate n x) (List.replicate n v)
  | 0 => rfl
  | n + 1 => ⟨v, _, rfl, d, DenL.rep d n⟩
theorem repLM_ints {i : Int} {t : Tok} (n : Nat) : DenL G (PF h₀ fr) (List.replicate n (.int i)) (List.replicate n (.int i t)) := DenL.rep (x := .int i) (v := .int i t) ⟨t, rfl⟩ n

theorem bin_sound {op : Operator} {a b : Tr} {Q : Tr → Prop} {va vb : Value} (h : binW op a b Q) (I : Inv G h₀ L s.heap m own fr aux W ρ) (ha : Den G (PF h₀ fr) a va) (hb : Den G (PF h₀ fr) b vb)
    (k : VPost G h₀ L m own fr aux W ρ s Q QQ) : wpAny (model prog w) A (binaryOp op va vb) QQ E s := by
  have now : ∀ {i : Int} {tk t : Nat}, Q (.int i) → QQ (.int i t) { s with toks := tk } := fun {i tk t} q => k _ s.heap tk fr (.int i) I (fun _ h => h) ⟨t, rfl⟩ q
  cases a <;> (try exact h.elim) <;> cases b <;> (try exact h.elim)
  · obtain ⟨t, rfl⟩ := ha; obtain ⟨u, rfl⟩ := hb
    cases op <;> (try exact h.elim)
    · exact PyProof.Rows.add_int (now h)
    · exact PyProof.Rows.sub_int (now h)
    · exact PyProof.Rows.mul_int (now h.2) h.1
    · exact PyProof.Rows.mod_int (by have := h.1; lia) (by rw [fmod_pos h.1]; exact now h.2)
    · exact pow_int h.1 h.2.1 (now h.2.2)
    · exact lshift_int h.1 h.2.1 (now h.2.2)
    · refine rshift_int h.1 ?_
      rw [fdiv_pos (Int.pow_pos (by decide))]
      exact now h.2
    · exact or_int (now h)
    · exact and_int (now h)
    · exact floordiv_int (hp := .inl (PyProof.noPylong_of_log2 h.2.1)) (by have := h.1; lia) (by rw [fdiv_pos h.1]; exact now h.2.2)
  · obtain ⟨x, t, rfl, hx⟩ := ha; obtain ⟨u, rfl⟩ := hb
    obtain ⟨rfl, h1, h2, h3, h4, h5⟩ := h
    subst hx
    refine bytes_mul_any (b := x.toList) (fun e => h1 (by unfold KBw.bInts; rw [e]; rfl)) (by lia) (by lia) (by rw [KBw.ints_length] at h2; simpa using h2) fun t' tk => ?_
    exact k _ s.heap tk fr (.bytes _) I (fun _ h => h) ⟨_, _, rfl, bInts_rep x _⟩ h5
  · obtain ⟨x, t, rfl, hx⟩ := ha; obtain ⟨y, u, rfl, hy⟩ := hb
    obtain ⟨rfl, h1, h2⟩ := h
    exact KBa.add_K hx hy h1 fun t' tk e => k _ s.heap tk fr (.bytes _) I (fun _ h => h) ⟨_, _, rfl, e⟩ h2
  · obtain ⟨a, o, vs, rfl, p, c, n, d⟩ := ha; obtain ⟨u, rfl⟩ := hb
    obtain ⟨rfl, h1, h2, i, rfl, h4⟩ := h
    obtain ⟨v, r, rfl, ⟨t, rfl⟩, rfl⟩ := d
    obtain ⟨⟨cls, dd, data, sl⟩, ho, hcl, k', hd⟩ := isList_of I p c n
    simp only at hcl hd
    subst hcl hd
    have e1 : [Value.int i t].toArray.size = 1 := rfl
    refine wpAny_binaryOp_repeat_ref (T := "list") (U := "int") (by decide) ⟨_, ho, rfl⟩ (fun s' => typeIs_int s' _ u) noFill_list_mul F.fills_int_mul F.slot_int_rmul repeat_list F.slot_int_index.lookup
      (call_meets F.slot_int_rmul (typeIs_int s _ u) F.entry_int_rmul (F.args_int_rmul_2 _ _) (lm_int_rmul_list_any _ u a [Value.int i t].toArray k' dd sl)
        ⟨ho, rfl, ⟨_, ho, rfl⟩, call_meets F.slot_list_mul ⟨_, ho, rfl⟩ F.entry_list_mul (F.args_list_mul_2 _ _)
          (lm_list_mul_any a [Value.int i t].toArray k' dd sl _ u (by simp [Builtin.List.listFitsIndex]; lia) (by rw [e1]; lia) (by rw [e1]; simp [Builtin.List.listTooLong, sizeLine]; lia))
          ⟨ho, ?_⟩⟩)
    rw [listMul_foldl_if, show [Value.int i t].toArray.toList = [Value.int i t] from rfl, rep_one]
    exact k _ _ s.toks ((_, _) :: fr) (.list _) (I.alloc (I.F.push _) (News.push I.F I.N _) (Nat.le_refl _)) (fun _ h => .tail _ h) ⟨_, _, _, rfl, .inr (.head _), rfl, ⟨0, rfl⟩, (repLM_ints _).mono (PF.mono fun _ h => .tail _ h)⟩ h4
  · obtain ⟨rfl, h1, h2⟩ := h
    exact add_listS I ha hb h1 fun h' l vs F' N' hl d => k _ h' s.toks ((l, _) :: fr) (.list _) (I.alloc F' N' hl) (fun _ h => .tail _ h) ⟨l, _, vs, rfl, .inr (.head _), rfl, ⟨0, rfl⟩, d.mono (PF.mono fun _ h => .tail _ h)⟩ h2
end
end Mine
end
section
open PySem PySem.W PySem.Spec PySem.Calls PyProof.Rows
set_option Elab.async false
namespace Mine
set_option maxRecDepth 100000

theorem bInts_inj {b c : Array UInt8} (h : KBw.bInts b = KBw.bInts c) : b.toList = c.toList := by
  unfold KBw.bInts at h
  exact List.map_inj_right (fun x y e => UInt8.toNat_inj.mp (Int.ofNat_inj.mp e)) |>.mp h
theorem bytes_beq {b c : Array UInt8} {ks ls : List Int} (hb : KBw.bInts b = ks) (hc : KBw.bInts c = ls) : (b.toList == c.toList) = (ks == ls) := by
  subst hb hc
  rw [Bool.eq_iff_iff, beq_iff_eq, beq_iff_eq]
  exact ⟨fun e => by rw [show b = c from Array.toList_inj.mp e], bInts_inj⟩

/-- a value that a name holds, shared or alone -/
noncomputable def Bor (G : Wo) (h₀ : Heap) (own fr : Led) (t : Tr) (v : Value) : Prop := Den G (PF h₀ fr) t v ∨ ∃ c, Cell G (PF h₀ fr) t v c ∧ ∀ p ∈ c, p ∈ own

theorem cutL_clip {α : Type} (xs : List α) {lo hi : Option Int} (h1 : nonNeg lo) (h2 : nonNeg hi) :
    (xs.drop (lo.elim 0 (clipAt xs.length))).take (hi.elim xs.length (clipAt xs.length) - lo.elim 0 (clipAt xs.length)) = cutL xs lo hi := by
  have clip : ∀ i : Int, 0 ≤ i → clipAt xs.length i = min i.toNat xs.length := fun i hi => by
    have := clipAt_cast xs.length i
    rw [if_neg (by lia)] at this
    lia
  have key : ∀ a b : Nat, (xs.drop (min a xs.length)).take (min b xs.length - min a xs.length) = (xs.take b).drop a := fun a b => by
    rw [List.drop_take]
    by_cases ha : a ≤ xs.length
    · rw [Nat.min_eq_left ha]
      by_cases hb : b ≤ xs.length
      · rw [Nat.min_eq_left hb]
      · rw [Nat.min_eq_right (by lia : xs.length ≤ b), List.take_of_length_le (by simp), List.take_of_length_le (by simp; lia)]
    · have e1 : min a xs.length = xs.length := Nat.min_eq_right (by lia)
      rw [e1, List.drop_of_length_le (Nat.le_refl _), List.drop_of_length_le (by lia : xs.length ≤ a)]
      simp
  unfold cutL
  cases lo with
  | none =>
    cases hi with
    | none => simp
    | some j =>
      have := key 0 j.toNat
      simp only [Nat.zero_min, Option.elim, Option.map, Option.getD, clip j h2] at this ⊢
      exact this
  | some i =>
    cases hi with
    | none =>
      have := key i.toNat xs.length
      simp only [Nat.min_self, Option.elim, Option.map, Option.getD, clip i h1] at this ⊢
      exact this
    | some j =>
      have := key i.toNat j.toNat
      simp only [Option.elim, Option.map, Option.getD, clip i h1, clip j h2] at this ⊢
      exact this
theorem pick_cut {vs : List Value} {lo hi : Option Int} (h1 : nonNeg lo) (h2 : nonNeg hi) : slicePick vs.toArray lo hi none = (cutL vs lo hi).toArray := by
  rw [← cutL_clip vs h1 h2]
  unfold slicePick
  rw [sliceBounds_plain]
  simp only [sliceRange_one, pick_run, List.size_toArray]

section
variable {prog : Program} {w : World} {A : Around} {E : Value → Shared → Prop} {s : Shared} {G : Wo} {h₀ : Heap} {L : Addr} {m : PySem.Str → Option Value} {own fr aux : Led} {W : List Addr} {ρ : Loc} {QQ : Value → Shared → Prop}

theorem DenL.cut {P : Facts} {xs : List Tr} {vs : List Value} (d : DenL G P xs vs) (lo hi : Option Int) : DenL G P (cutL xs lo hi) (cutL vs lo hi) := by
  unfold cutL
  rw [d.length]
  exact (d.take _).drop _

theorem eqL_range (f : Tr → Tr → Bool) (d : Tr) : ∀ (xs ys : List Tr), xs.length = ys.length → ((List.range xs.length).all fun j => f (xs.getD j d) (ys.getD j d)) = eqL f xs ys
  | [], [], _ => rfl
  | x :: xs, y :: ys, h => by
    have ih := eqL_range f d xs ys (by simpa using h)
    show _ = (f x y && eqL f xs ys)
    rw [List.length_cons, List.range_succ_eq_map, List.all_cons, List.all_map, ← ih]
    rfl
theorem eqL_len (f : Tr → Tr → Bool) : ∀ (xs ys : List Tr), xs.length ≠ ys.length → eqL f xs ys = false
  | [], [], h => (h rfl).elim
  | [], _ :: _, _ => rfl
  | _ :: _, [], _ => rfl
  | x :: xs, y :: ys, h => by show (f x y && eqL f xs ys) = false; rw [eqL_len f xs ys (fun e => h (by simp [e])), Bool.and_false]
theorem okL_get {f : Tr → Tr → Prop} : ∀ {xs ys : List Tr}, okL f xs ys → ∀ {j : Nat} {x y : Tr}, xs[j]? = some x → ys[j]? = some y → f x y
  | [], _, _, _, _, _, h, _ => by simp at h
  | _ :: _, [], _, _, _, _, _, h => by simp at h
  | _ :: _, _ :: _, h, 0, _, _, h1, h2 => by simp at h1 h2; subst h1 h2; exact h.1
  | _ :: _, _ :: _, h, j + 1, _, _, h1, h2 => okL_get h.2 (j := j) (by simpa using h1) (by simpa using h2)
open SeqAt in
theorem eqAt_bytes {b c : Array UInt8} {t u : Tok} {ks ls : List Int} (hb : KBw.bInts b = ks) (hc : KBw.bInts c = ls) : EqAt A s (.bytes b t) (.bytes c u) (ks == ls) := fun prog w E Q h => by
  unfold eqBool
  refine wpAny_holding ?_
  refine wpAny_ite_split (fun hab => ?_) (fun _ => ?_)
  · have e : b = c := by have := eq_of_beq hab; injection this
    subst e
    subst hb
    subst hc
    exact wpAny_bind (wpAny_rule (wpAny_pure (by simpa using h)))
  · exact wpAny_bind (eq_bytes (by rw [bytes_beq hb hc]; exact wpAny_truthy_bool h))

theorem den_same {P : Facts} (fn : ∀ a o o', P a o → P a o' → o = o') : ∀ (d : Nat) (a b : Tr) (v : Value), okT d a b → Den G P a v → Den G P b v → eqT d a b = true := by
  have atom : ∀ (a b : Tr) (v : Value), okA a b → Den G P a v → Den G P b v → eqA a b = true := fun a b v h ha hb => by
    cases a <;> first | exact h.elim | skip
    all_goals (cases b <;> first | exact h.elim | skip)
    · rfl
    · obtain rfl : v = _ := ha; cases hb; exact beq_self_eq_true _
    · obtain ⟨t, rfl⟩ := ha; obtain ⟨u, e⟩ := hb; cases e; exact beq_self_eq_true _
    · obtain ⟨t, rfl⟩ := ha; obtain ⟨u, e⟩ := hb; cases e; exact beq_self_eq_true _
    · obtain ⟨x, t, rfl, hx⟩ := ha; obtain ⟨y, u, e, hy⟩ := hb; cases e; subst hx hy; exact beq_self_eq_true _
  have lists : ∀ (f : Tr → Tr → Bool) (g : Tr → Tr → Prop), (∀ a b v, g a b → Den G P a v → Den G P b v → f a b = true) → ∀ (xs ys : List Tr) (vs : List Value), okL g xs ys → DenL G P xs vs → DenL G P ys vs → eqL f xs ys = true := by
    intro f g hf xs
    induction xs with
    | nil =>
      intro ys vs _ h1 h2
      cases ys with
      | nil => rfl
      | cons y ys => obtain ⟨v, r, e, _⟩ := h2; rw [h1] at e; cases e
    | cons x xs ih =>
      intro ys vs ok h1 h2
      obtain ⟨v, r, rfl, d, dl⟩ := h1
      cases ys with
      | nil => cases h2
      | cons y ys =>
        obtain ⟨v', r', e, d', dl'⟩ := h2
        cases e
        show (f x y && eqL f xs ys) = true
        rw [hf x y v ok.1 d d', ih ys r ok.2 dl dl']; rfl
  intro d
  induction d with
  | zero => exact atom
  | succ d ih =>
    intro a b v h ha hb
    cases a <;> first | exact atom _ _ v (by exact h) ha hb | skip
    all_goals (cases b <;> first | exact (show False from h).elim | skip)
    · obtain ⟨a, o, vs, rfl, p, c, ⟨n, hd⟩, dl⟩ := ha
      obtain ⟨a', o', vs', e, p', c', ⟨n', hd'⟩, dl'⟩ := hb
      cases e
      cases fn _ _ _ p p'
      rw [hd] at hd'
      cases hd'
      exact lists _ _ ih _ _ vs (h (by rw [← dl.length, ← dl'.length])) dl dl'
    · obtain ⟨a, o, vs, rfl, p, c, ⟨n, hd⟩, dl⟩ := ha
      obtain ⟨a', o', vs', e, p', c', ⟨n', hd'⟩, dl'⟩ := hb
      cases e
      cases fn _ _ _ p p'
      rw [hd] at hd'
      cases hd'
      exact lists _ _ ih _ _ vs h dl dl'

open SeqAt in
/-- two lists, two tuples: by their items -/
theorem rc_seq {P : Facts} (hP : ∀ a o, P a o → s.heap.get? a = some o) {f : Tr → Tr → Bool} {g : Tr → Tr → Prop} (hf : ∀ a b v u, g a b → Den G P a v → Den G P b u → EqAt A.in1 s v u (f a b)) (hu : A.units < cLine) {xs ys : List Tr} {v u : Value} :
    ((xs.length = ys.length → okL g xs ys) → Den G P (.list xs) v → Den G P (.list ys) u → RcAt A s v u (eqL f xs ys) ∧ RcNeAt A s v u (!eqL f xs ys)) ∧
    (okL g xs ys → Den G P (.tup xs) v → Den G P (.tup ys) u → RcAt A s v u (eqL f xs ys) ∧ RcNeAt A s v u (!eqL f xs ys)) := by
  have items : ∀ (vs us : List Value), okL g xs ys → DenL G P xs vs → DenL G P ys us → ∀ j (h1 : j < vs.toArray.size) (h2 : j < us.toArray.size), EqAt A.in1 s vs.toArray[j] us.toArray[j] (f (xs.getD j .none) (ys.getD j .none)) := fun vs us ok d1 d2 j h1 h2 => by
    obtain ⟨x, hx, dx⟩ := d1.getR (i := j) (v := vs.toArray[j]) (by simp at h1 ⊢)
    obtain ⟨y, hy, dy⟩ := d2.getR (i := j) (v := us.toArray[j]) (by simp at h2 ⊢)
    rw [List.getD_eq_getElem?_getD, List.getD_eq_getElem?_getD, hx, hy]
    exact hf x y _ _ (okL_get ok hx hy) dx dy
  constructor
  · intro h ha hb
    obtain ⟨l, o, vs, rfl, p, c, hd, dl⟩ := ha
    obtain ⟨b, o', us, rfl, p', c', hd', dl'⟩ := hb
    have hl : s.heap.IsList l vs.toArray := ⟨o, hP _ _ p, c, hd⟩
    have hb : s.heap.IsList b us.toArray := ⟨o', hP _ _ p', c', hd'⟩
    by_cases hlen : xs.length = ys.length
    · have hz : vs.toArray.size = us.toArray.size := by simp [dl.length, dl'.length, hlen]
      have e := eqL_range f .none xs ys hlen
      have hs : vs.toArray.size = xs.length := by simp [dl.length]
      have r1 := RcAt.lists hl hb hz hu (items vs us (h hlen) dl dl')
      have r2 := RcNeAt.lists hl hb hz hu (items vs us (h hlen) dl dl')
      rw [hs, e] at r1 r2
      exact ⟨r1, r2⟩
    · have hz : (vs.toArray.size != us.toArray.size) = true := by simp [dl.length, dl'.length, hlen]
      rw [eqL_len _ _ _ hlen]
      exact ⟨RcAt.lists_lengths hl hb hz hu, RcNeAt.lists_lengths hl hb hz hu⟩
  · intro h ha hb
    obtain ⟨l, o, vs, rfl, p, c, hd, dl⟩ := ha
    obtain ⟨b, o', us, rfl, p', c', hd', dl'⟩ := hb
    have hl : s.heap.IsTuple l vs.toArray := ⟨o, hP _ _ p, c, hd⟩
    have hb : s.heap.IsTuple b us.toArray := ⟨o', hP _ _ p', c', hd'⟩
    have r1 := RcAt.tuples hl hb hu (items vs us h dl dl')
    have r2 := RcNeAt.tuples hl hb hu (items vs us h dl dl')
    have h1 : vs.toArray.size = xs.length := by simp [dl.length]
    have h2 : us.toArray.size = ys.length := by simp [dl'.length]
    rw [h1, h2] at r1 r2
    by_cases hlen : xs.length = ys.length
    · have e := eqL_range f .none xs ys hlen
      rw [← hlen, Nat.min_self, e, beq_self_eq_true, Bool.and_true] at r1 r2
      exact ⟨r1, r2⟩
    · rw [beq_eq_false_iff_ne.mpr hlen, Bool.and_false] at r1 r2
      rw [eqL_len _ _ _ hlen]
      exact ⟨r1, r2⟩

open SeqAt in
theorem eq_at {P : Facts} (hP : ∀ a o, P a o → s.heap.get? a = some o) : ∀ (d : Nat) (A : Around) (a b : Tr) (v u : Value), okT d a b → Den G P a v → Den G P b u → A.units + d < cLine → EqAt A s v u (eqT d a b) := by
  have fn : ∀ a o o', P a o → P a o' → o = o' := fun a o o' p q => Option.some.inj ((hP _ _ p).symm.trans (hP _ _ q))
  have atom : ∀ (A : Around) (a b : Tr) (v u : Value), okA a b → Den G P a v → Den G P b u → EqAt A s v u (eqA a b) := fun A a b v u h ha hb => by
    cases a <;> first | exact h.elim | skip
    all_goals (cases b <;> first | exact h.elim | skip)
    · obtain rfl : v = _ := ha; obtain rfl : u = _ := hb; exact EqAt.same _
    · obtain rfl : v = _ := ha; obtain rfl : u = _ := hb; exact EqAt.bool_bool _ _
    · obtain ⟨t, rfl⟩ := ha; obtain ⟨t', rfl⟩ := hb; exact EqAt.int_int _ _ _ _
    · obtain ⟨t, rfl⟩ := ha; obtain ⟨t', rfl⟩ := hb; exact EqAt.str_str _ _ _ _
    · obtain ⟨x, t, rfl, hx⟩ := ha; obtain ⟨y, t', rfl, hy⟩ := hb; exact eqAt_bytes hx hy
  intro d
  induction d with
  | zero => intro A a b v u h ha hb _; exact atom A a b v u h ha hb
  | succ d ih =>
    intro A a b v u h ha hb hu
    have same := fun e : v = u => den_same fn (d + 1) _ _ v h ha (e ▸ hb)
    have refs : ∀ {c : Bool}, (∃ l, v = .ref l) → (∃ l, u = .ref l) → eqT (d + 1) a b = c → RcAt A s v u c → EqAt A s v u c := fun h1 h2 ec r => by
      obtain ⟨l, rfl⟩ := h1
      obtain ⟨l', rfl⟩ := h2
      by_cases e : l = l'
      · rw [← ec, same (by rw [e]), e]; exact EqAt.same _
      · exact EqAt.of_refs e r
    have ih' : ∀ a b v u, okT d a b → Den G P a v → Den G P b u → EqAt A.in1 s v u (eqT d a b) := fun a b v u h ha hb => ih A.in1 a b v u h ha hb (by rw [Around.in1_units]; lia)
    cases a <;> first | exact atom A _ _ v u (by exact h) ha hb | skip
    all_goals (cases b <;> first | exact (show False from h).elim | skip)
    · exact refs (by obtain ⟨l, _, _, e, _⟩ := ha; exact ⟨l, e⟩) (by obtain ⟨l, _, _, e, _⟩ := hb; exact ⟨l, e⟩) rfl ((rc_seq hP ih' (by lia)).1 h ha hb).1
    · exact refs (by obtain ⟨l, _, _, e, _⟩ := ha; exact ⟨l, e⟩) (by obtain ⟨l, _, _, e, _⟩ := hb; exact ⟨l, e⟩) rfl ((rc_seq hP ih' (by lia)).2 h ha hb).1

theorem ints_mem {vs : List Value} {ns : List Int} (h : IntsAre vs ns) : ∀ y ∈ vs, ∃ i t, y = .int i t := by
  induction h with
  | nil => intro y hy; cases hy
  | cons n t r ih =>
    intro y hy
    rcases List.mem_cons.mp hy with rfl | h
    · exact ⟨n, t, rfl⟩
    · exact ih y h
theorem ints_any {a : Int} {vs : List Value} {ns : List Int} (h : IntsAre vs ns) : vs.any (valHitsInt a) = ns.contains a := by
  induction h with
  | nil => rfl
  | cons n t r ih =>
    rw [List.any_cons, ih, List.contains_cons]
    congr 1
    show (n == a) = (a == n)
    exact Bool.beq_comm ..
open SeqAt in
theorem cmp_sound {op : CmpOp} {a b : Tr} {Q : Bool → Prop} {va vb : Value} (h : cmpW op a b Q) {P : Facts} (hP : ∀ a o, P a o → s.heap.get? a = some o) (ha : Den G P a va) (hb : Den G P b vb)
    (hu : A.units + 8 < cLine) (k : ∀ c, Q c → QQ (.bool c) s) : wpAny (model prog w) A (compareOp op va vb) QQ E s := by
  have hu0 : A.units < cLine := by lia
  have deep := fun (a b : Tr) (v u : Value) (h : okT 2 a b) (ha : Den G P a v) (hb : Den G P b u) => eq_at hP 2 A.in1 a b v u h ha hb (by rw [Around.in1_units]; lia)
  have fin : ∀ {c : Bool}, SeqAt.RcAt A s va vb c ∧ SeqAt.RcNeAt A s va vb (!c) → eqW op c Q → wpAny (model prog w) A (compareOp op va vb) QQ E s := fun r hq => by
    cases op <;> first | exact hq.elim | skip
    · exact r.1 prog w E QQ (k _ hq)
    · exact r.2 prog w E QQ (k _ hq)
  cases a <;> first | exact h.elim | skip
  all_goals (cases b <;> first | exact h.elim | skip)
  · obtain rfl : va = _ := ha; obtain rfl : vb = _ := hb
    cases op <;> first | exact h.elim | skip
    · exact RcAt.none_none prog w E QQ (k _ h)
    · exact RcNeAt.none_none prog w E QQ (k _ h)
    · exact is_none_none (k _ h)
  · obtain rfl : va = _ := ha; obtain ⟨l, o', us, rfl, p', c', hd', _⟩ := hb
    cases op <;> first | exact h.elim | skip
    · exact RcAt.none_list ⟨o', hP _ _ p', c', hd'⟩ hu0 prog w E QQ (k _ h)
    · exact RcNeAt.none_list ⟨o', hP _ _ p', c', hd'⟩ hu0 prog w E QQ (k _ h)
  · obtain rfl : va = _ := ha; obtain ⟨l, o', us, rfl, p', c', hd', _⟩ := hb
    cases op <;> first | exact h.elim | skip
    · exact RcAt.none_tuple ⟨o', hP _ _ p', c', hd'⟩ hu0 prog w E QQ (k _ h)
    · exact RcNeAt.none_tuple ⟨o', hP _ _ p', c', hd'⟩ hu0 prog w E QQ (k _ h)
  · obtain ⟨t, rfl⟩ := ha; obtain ⟨u, rfl⟩ := hb
    cases op <;> first | exact h.elim | skip
    · exact PyProof.Rows.eq_int (k _ h)
    · exact PyProof.Rows.ne_int (k _ h)
    · exact PyProof.Rows.lt_int (k _ h)
    · exact PyProof.Rows.le_int (k _ h)
    · exact PyProof.Rows.gt_int (k _ h)
    · exact PyProof.Rows.ge_int (k _ h)
  · rename_i iN xsN
    obtain ⟨t, rfl⟩ := ha; obtain ⟨l, o', us, rfl, p', c', hd', d⟩ := hb
    obtain ⟨rfl, ns, rfl, hq⟩ := h
    refine notIn_listAt (valHitsInt iN) ⟨o', hP _ _ p', c', hd'⟩ (fun y hy => ?_) (k _ ?_)
    · obtain ⟨i, u, rfl⟩ := ints_mem d.ints y (by simpa using hy)
      exact EqAt.int_int i u _ t
    · rw [List.any_toArray, ints_any d.ints]; exact hq
  · obtain ⟨t, rfl⟩ := ha; obtain ⟨u, rfl⟩ := hb
    cases op <;> first | exact h.elim | skip
    · exact PyProof.Rows.eq_str (k _ h)
    · exact PyProof.Rows.ne_str (k _ h)
  · obtain ⟨x, t, rfl, hx⟩ := ha; obtain ⟨y, u, rfl, hy⟩ := hb
    cases op <;> first | exact h.elim | skip
    · exact eq_bytes (by rw [bytes_beq hx hy]; exact k _ h)
    · exact ne_bytes (by rw [bne, bytes_beq hx hy]; exact k _ h)
  · obtain ⟨l, o', us, rfl, p', c', hd', _⟩ := ha; obtain rfl : vb = _ := hb
    cases op <;> first | exact h.elim | skip
    · exact RcAt.list_none ⟨o', hP _ _ p', c', hd'⟩ hu0 prog w E QQ (k _ h)
    · exact RcNeAt.list_none ⟨o', hP _ _ p', c', hd'⟩ hu0 prog w E QQ (k _ h)
    · exact is_none_ne nofun (k _ h)
  · exact fin ((rc_seq hP deep hu0).1 h.1 ha hb) h.2
  · obtain ⟨l, o', us, rfl, p', c', hd', _⟩ := ha; obtain rfl : vb = _ := hb
    cases op <;> first | exact h.elim | skip
    · exact RcAt.tuple_none ⟨o', hP _ _ p', c', hd'⟩ hu0 prog w E QQ (k _ h)
    · exact RcNeAt.tuple_none ⟨o', hP _ _ p', c', hd'⟩ hu0 prog w E QQ (k _ h)
    · exact is_none_ne nofun (k _ h)
  · exact fin ((rc_seq hP deep hu0).2 h.1 ha hb) h.2

theorem Bor.list (I : Inv G h₀ L s.heap m own fr aux W ρ) {xs : List Tr} {v : Value} (b : Bor G h₀ own fr (.list xs) v) : ∃ a vs, v = .ref a ∧ s.heap.IsList a vs.toArray ∧ DenL G (PF h₀ fr) xs vs := by
  rcases b with ⟨a, o, vs, rfl, p, c, n, d⟩ | ⟨c, hc, hm⟩
  · exact ⟨a, vs, rfl, isList_of I p c n, d⟩
  · cases hc with
    | list d => exact ⟨_, _, rfl, ⟨_, (I.N _ (List.mem_append_left _ (List.mem_append_left _ (hm _ (.head _))))).1, rfl, _, rfl⟩, d⟩
theorem Bor.tup (I : Inv G h₀ L s.heap m own fr aux W ρ) {xs : List Tr} {v : Value} (b : Bor G h₀ own fr (.tup xs) v) : ∃ a vs, v = .ref a ∧ IsTup s.heap a vs.toArray ∧ DenL G (PF h₀ fr) xs vs := by
  rcases b with ⟨a, o, vs, rfl, p, c, n, d⟩ | ⟨c, hc, hm⟩
  · exact ⟨a, vs, rfl, isTup_of I p c n, d⟩
  · cases hc
theorem Bor.bytes {ks : List Int} {v : Value} (b : Bor G h₀ own fr (.bytes ks) v) : ∃ x t, v = .bytes x t ∧ KBw.bInts x = ks := by
  rcases b with h | ⟨c, hc, hm⟩
  · exact h
  · cases hc

theorem sub_ops (slice : Expr) (o i : Value) : ∃ ops, subscripted slice false o i = operate ops (getItem o i) := by
  cases slice with
  | Slice lo hi st p => cases st with
    | none => exact ⟨_, rfl⟩
    | some st => exact ⟨_, rfl⟩
  | _ => exact ⟨_, rfl⟩

theorem item_sound {value slice : Expr} {t k : Tr} {Q : Tr → Prop} {vt vk : Value} (h : itemW t k Q) (I : Inv G h₀ L s.heap m own fr aux W ρ) (ht : Bor G h₀ own fr t vt) (hk : Den G (PF h₀ fr) k vk)
    (q : VPost G h₀ L m own fr aux W ρ s Q QQ) : wpAny (model prog w) A (subscriptTail value slice vt vk) QQ E s := by
  have hb : big = 16777216 := rfl
  obtain ⟨ops, hs⟩ := sub_ops slice vt vk
  cases k <;> first | exact h.elim | skip
  · rename_i i
    obtain ⟨u, rfl⟩ := hk
    obtain ⟨h0, h1, h⟩ := h
    have h0' := h0
    have h1' := h1
    cases t <;> first | exact h.elim | skip
    · obtain ⟨b, x, rfl, hx⟩ := ht.bytes
      obtain ⟨hz, y, hy, hq⟩ := h
      have e : b.toList.toArray = b := Array.toArray_toList
      have hlen : b.toList.length = (KBw.bInts b).length := by simp [KBw.bInts]
      obtain ⟨hlt, hy'⟩ := List.getElem?_eq_some_iff.mp hy
      rw [← hx] at hlt hz
      refine tail_any (typeIs_bytes _ _ _) FB.slot_bytes_getitem.lookup ?_ hs
      rw [← e]
      refine getItem_bytes (by lia) h0 (by lia) ?_
      rw [KBw.getD_ints]
      have e2 : (b.toList.map fun c => (c.toNat : Int)).getD i.toNat 0 = y := by
        show (KBw.bInts b).getD i.toNat 0 = y
        rw [hx, List.getD_eq_getElem?_getD, hy]; rfl
      rw [e2]
      exact q _ s.heap _ fr (.int y) I (fun _ h => h) ⟨_, rfl⟩ hq
    · obtain ⟨a, vs, rfl, hl, d⟩ := ht.list I
      obtain ⟨x, hx, hq⟩ := h
      obtain ⟨v, hv, dv⟩ := d.get hx
      exact tail_any hl.typeIs slot_list_getitem.lookup (wpAny_getItem_list hl h0 (by lia) (by simpa using hv) (q v s.heap s.toks fr x I (fun _ h => h) dv hq)) hs
    · obtain ⟨a, vs, rfl, hl, d⟩ := ht.tup I
      obtain ⟨x, hx, hq⟩ := h
      obtain ⟨v, hv, dv⟩ := d.get hx
      obtain ⟨hlt, _⟩ := List.getElem?_eq_some_iff.mp hv
      refine tail_any hl.typeIs slot_tuple_getitem.lookup (getItem_tuple hl (by lia) (by lia) (j := i.toNat) ?_ (by simpa using hv) (q v s.heap s.toks fr x I (fun _ h => h) dv hq)) hs
      have hn : ¬ i < 0 := by lia
      have hlt' : i < (vs.length : Int) := by lia
      simp [seqIndex?, hn, h0, hlt']
  · rename_i lo hi
    obtain ⟨sa, so, vl, vu, rfl, ps, pc, pd, hl, hu⟩ := hk
    have hsl : s.heap.IsSliceOf sa vl vu .none := ⟨so, I.pf ps, pc, pd⟩
    obtain ⟨n1, n2, h⟩ := h
    cases t <;> first | exact h.elim | skip
    · obtain ⟨b, x, rfl, hx⟩ := ht.bytes
      obtain ⟨hz, hq⟩ := h
      refine tail_any (typeIs_bytes _ _ _) FB.slot_bytes_getitem.lookup (getItem_meets (typeIs_bytes _ _ _) (by decide) FB.slot_bytes_getitem FB.entry_bytes_getitem (FB.args_bytes_getitem_2 _ _) (KBc.meets_slice2 b x _ hl hu)
        ⟨hsl, Nat.le_trans (KBc.size_picked_le b lo hi) (by rw [← KBw.ints_length b, hx, sizeLine_eq]; exact hz), fun t' k => ?_⟩) hs
      have e := KBc.ints_picked hx lo hi
      rw [cutL_clip _ n1 n2] at e
      exact q _ s.heap _ fr (.bytes _) I (fun _ h => h) ⟨_, _, rfl, e⟩ hq
    · obtain ⟨a, vs, rfl, hl', d⟩ := ht.list I
      obtain ⟨hz, hq⟩ := h
      refine tail_any hl'.typeIs list_getitem_lookup (wpAny_getItem_list_slice hl' hsl hl hu .none (by simp) ?_ (by rw [List.size_toArray, d.length]; exact Nat.le_trans hz big_le)) hs
      rw [pick_cut n1 n2]
      have dd := d.cut lo hi
      exact q _ _ s.toks ((_, _) :: fr) (.list _) (I.alloc (I.F.push _) (News.push I.F I.N _) (Nat.le_refl _)) (fun _ h => .tail _ h) ⟨_, _, _, rfl, .inr (.head _), rfl, ⟨0, rfl⟩, dd.mono (PF.mono fun _ h => .tail _ h)⟩ hq
end
end Mine
end
section
open PySem PySem.W PySem.Spec PySem.Calls PyProof.Rows
open AutoSeq1 (wpAny_loadPart')
set_option Elab.async false
namespace Mine
set_option tactic.hygienic false
set_option maxRecDepth 100000
section
variable {prog : Program} {w : World} {A : Around} {E : Value → Shared → Prop} {s : Shared}
theorem bb_look : typeLookup (.type "bytes") "__bytes__" = pure (some (.builtin "bytes.__bytes__")) := by rw [typeLookup_type, builtinLookup_eq_fast]; kernel_rfl

theorem bb_new {b : Array UInt8} {t : Tok} {Q : Value → Shared → Prop} (hQ : ∀ k, Q (.bytes b t) { s with toks := k }) :
    codeAny (model prog w) A (.call (.builtin "bytes.__new__") ⟨[.type "bytes", .bytes b t], []⟩) (wants Q E) s := by
  refine codeAny_of_tree ?_
  show wpAny _ A.in1 (do checkBuiltinCall "bytes.__new__" ⟨[.type "bytes", .bytes b t], []⟩; again (.builtin "bytes.__new__" ⟨[.type "bytes", .bytes b t], []⟩)) _ _ s
  refine wpAny_bind (wpAny_of_eq (F.bm_newCall _) (wpAny_pure ⟨plainId_quiet F.bm_plain _, codeAny_builtin F.bm_entry ?_⟩))
  rw [Around.under_plainId F.bm_plain _]
  have hT : s.TypeIs (.bytes b t) "bytes" := typeIs_bytes s b t
  unfold Builtin.«bytes.__new__»
  refine wpAny_bind (wpAny_of_eq (a := true) rfl ?_)
  refine bm_if_false rfl ?_
  refine wpAny_bind (wpAny_of_eq F.bm_sub ?_)
  refine bm_if_false rfl ?_
  refine wpAny_bind (wpAny_of_eq (F.bm_bind _) ?_)
  refine wpAny_bind (wpAny_of_eq (a := ()) rfl ?_)
  refine wpAny_bind (wpAny_of_eq (a := ()) rfl ?_)
  refine bm_if_false rfl ?_
  refine wpAny_bind (wpAny_specialOf hT bb_look ?_)
  refine wpAny_bind (wpAny_rule ?_)
  refine wpAny_bind (wpAny_typeOf hT ?_)
  refine bm_if_true (by decide) ?_
  show wpAny _ _ (if (Value.type "bytes" == Value.type "bytes") = true then _ else _) _ _ _
  refine bm_if_true (by decide) ?_
  first
    | exact wpAny_pure (hQ _)
    | exact wpAny_bind (wpAny_pure (wpAny_pure (hQ _)))

/-- bytes(b) of bytes -/
theorem call_bytes_bytes {b : Array UInt8} {t : Tok} {Q : Value → Shared → Prop} (h : ∀ tk, Q (.bytes b t) { s with toks := tk }) : wpAny (model prog w) A (call (.type "bytes") [.bytes b t]) Q E s := by
  refine callType_codes (Q₁ := fun obj s₁ => s₁.TypeIs obj "bytes" ∧ Q obj s₁) F.bm_called (F.bm_typeCall _) F.entry_object_init
    (bb_new fun k => ⟨PySem.W.typeIs_bytes _ _ _, h k⟩) fun obj s₁ h₁ => ?_
  exact ⟨h₁.1, F.args_object_init_2 obj _, object_init_meets F.bm_called.init.lookup F.bm_called.made (by decide) prog w A.in1 _ s₁ ⟨h₁.1, rfl, h₁.2⟩⟩

theorem hint_bytes {b : Array UInt8} {t : Tok} {Q : Bool → Shared → Prop} (h : ∀ c k, Q c { s with toks := k }) : wpAny (model prog w) A (Builtin.List.listLengthHint (.bytes b t)) Q E s := by
  unfold Builtin.List.listLengthHint
  have hT : s.TypeIs (.bytes b t) "bytes" := typeIs_bytes s b t
  refine wpAny_bind (wpAny_specialOf hT FB.slot_bytes_len.lookup ?_)
  generalize hid : ("bytes.__len__" : String) = id0
  wp_delta
  rw [show splitId id0 = some ("bytes", "__len__") from by subst hid; decide +kernel]
  subst hid
  refine wpAny_bind (wpAny_isInstance (T := "bytes") (b := true) hT (by rw [isSubtype_type]; kernel_rfl) ?_)
  refine wpAny_ite_split (fun hab => absurd hab (by decide)) (fun _ => ?_)
  refine wpAny_ite_split (fun _ => ?_) (fun hab => absurd (by decide +kernel) hab)
  refine wpAny_bind (wpAny_typeOf hT ?_)
  exact wpAny_pure (h _ _)

theorem extend_bytes {R : Result → Shared → Prop} {b : Array UInt8} {t : Tok} (hh : A.handled = none) (hz : b.size ≤ sizeLine) (S : Addr) (res : Value) (c₀ : Nat) (hS : s.heap.get? S = some { cls := .type "list", data := .seq #[] c₀ })
    (hR : ∀ h' tk acc' c', (∀ b o, b ≠ S → s.heap.get? b = some o → h'.get? b = some o) → h'.get? S = some { cls := .type "list", dict := none, data := .seq acc' c', slots := #[] } →
      ItemsOf (fun i v => ∃ c u, b[i]? = some c ∧ v = .int (c.toNat : Int) u) acc' b.size → R (.ok (.ret res)) { s with heap := h', toks := tk }) :
    wpAny (model prog w) A.in1 (Builtin.List.listExtendWith (.ref S) (.bytes b t) res)
      (fun fin s' => match fin with | .done f => R (.ok f) s' | .again c' => c'.quiet = true ∧ codeAny (model prog w) A c' R s') (fun e s' => R (.error e) s') s := by
  have hSlt : S < s.heap.objs.size := Heap.lt_size hS
  have hSI : S ≠ s.heap.objs.size := Nat.ne_of_lt hSlt
  have hSf : S ∉ [s.heap.objs.size] := fun hm => hSI (List.mem_singleton.mp hm)
  have W := (KBw.walks (prog := prog) (w := w) (A := A.in1) hh s.heap.objs.size b t).toS
  have key : ∀ (h : Heap) (c₁ tk : Nat), KBw.IsBytesIter h s.heap.objs.size b t 0 → (∀ b o, b ≠ S → s.heap.get? b = some o → h.get? b = some o) →
      h.get? S = some { cls := .type "list", data := .seq #[] c₁ } → codeAny (model prog w) A (.builtin "list.extend.loop" ⟨[.ref S, .ref s.heap.objs.size, res], []⟩) R { s with heap := h, toks := tk } := by
    intro h c₁ tk hit hk hS₁
    refine codeAny_extend_loopS W hz S hSf res b.size 0 _ #[] c₁ rfl (Nat.zero_le _) hit hS₁ (ItemsOf.nil _) fun s' acc' c' hm hS' hacc => ?_
    rw [Moved.eq_with hm]
    refine hR s'.heap s'.toks acc' c' (fun b o hb e => hm.heap b o (fun hmem => ?_) (hk b o hb e)) hS' hacc
    rcases List.mem_cons.mp hmem with e' | hmem
    · exact hb e'
    · exact absurd (Heap.lt_size e) (by rw [List.mem_singleton.mp hmem]; exact Nat.lt_irrefl _)
  unfold Builtin.List.listExtendWith
  refine wpAny_bind (wpAny_typeOf (T := "bytes") (typeIs_bytes s b t) ?_)
  have h1 : Builtin.List.listSameRef (.ref S) (.bytes b t) = false := rfl
  have h2 : (Value.type "bytes" == Value.type "list") = false := by decide
  have h3 : (Value.type "bytes" == Value.type "tuple") = false := by decide
  simp only [h1, h2, h3, Bool.or_false, Bool.false_eq_true, if_false]
  refine wpAny_bind (KBw.pyIter_bytes ?_)
  refine wpAny_bind (wpAny_holding (hint_bytes fun c k => ?_))
  have hit₁ : KBw.IsBytesIter (s.heap.push { cls := .type "bytes_iterator", data := .fields #[.bytes b t, .int 0 0] }) s.heap.objs.size b t 0 := ⟨_, Heap.get?_push_size _ rfl, rfl, rfl⟩
  have hS₁ := Heap.get?_push_of_some { cls := .type "bytes_iterator", data := .fields #[.bytes b t, .int 0 0] } hS
  refine wpAny_ite_split (fun _ => ?_) (fun _ => wpAny_pure ⟨plainId_quiet F.plain_extend_loop _, key _ c₀ _ hit₁ (fun b o _ e => Heap.get?_push_of_some _ e) hS₁⟩)
  refine wpAny_bind (wpAny_rule ?_)
  refine wpAny_bind ?_
  show wpAny _ _ (updateSeq S (·.push .none) >>= fun _ => updateSeq S (·.pop)) _ _ _
  refine wpAny_bind (wpAny_updateSeq hS₁ rfl ?_)
  have hS₂ := Heap.get?_update_self (Obj.mapSeq (·.push Value.none)) hS₁ rfl
  refine wpAny_updateSeq (hz := by seq_fits) hS₂ rfl ?_
  have hS₃ := Heap.get?_update_self (Obj.mapSeq (·.pop)) hS₂ rfl
  refine wpAny_pure ⟨plainId_quiet F.plain_extend_loop _, key _ _ _ ?_ (fun b o hb e => ?_) hS₃⟩
  · obtain ⟨o, e, r⟩ := hit₁
    exact ⟨o, (Heap.get?_update_other _ _ hSI).trans ((Heap.get?_update_other _ _ hSI).trans e), r⟩
  · exact (Heap.get?_update_other _ _ (Ne.symm hb)).trans ((Heap.get?_update_other _ _ (Ne.symm hb)).trans (Heap.get?_push_of_some _ e))

theorem init_bytes {R : Result → Shared → Prop} {b : Array UInt8} {t : Tok} (hh : A.handled = none) (hz : b.size ≤ sizeLine) (S : Addr) (hS : s.heap.get? S = some { cls := .type "list", data := .seq #[] })
    (hR : ∀ h' tk acc' c', (∀ b o, b ≠ S → s.heap.get? b = some o → h'.get? b = some o) → h'.get? S = some { cls := .type "list", dict := none, data := .seq acc' c', slots := #[] } →
      ItemsOf (fun i v => ∃ c u, b[i]? = some c ∧ v = .int (c.toNat : Int) u) acc' b.size → R (.ok (.ret .none)) { s with heap := h', toks := tk }) :
    wpAny (model prog w) A.in1 (Builtin.«list.__init__» ⟨[.ref S, .bytes b t], []⟩)
      (fun fin s' => match fin with | .done f => R (.ok f) s' | .again c' => c'.quiet = true ∧ codeAny (model prog w) A c' R s') (fun e s' => R (.error e) s') s := by
  show wpAny _ _ (do let old ← Builtin.List.listItems (.ref S); Builtin.List.listUpdate (.ref S) (fun _ => #[]); letGo old.toList.reverse; Builtin.List.listExtendWith (.ref S) (.bytes b t) .none) _ _ s
  refine wpAny_bind ?_
  unfold Builtin.List.listItems
  refine wpAny_bind (wpAny_seqItems hS rfl (wpAny_pure ?_))
  show wpAny _ _ (updateSeq S (fun _ => #[]) >>= fun _ => letGo (#[] : Array Value).toList.reverse >>= fun _ => Builtin.List.listExtendWith (.ref S) (.bytes b t) .none) _ _ s
  refine wpAny_bind (wpAny_updateSeq hS rfl ?_)
  have hS₂ := Heap.get?_update_self (Obj.mapSeq (fun _ => (#[] : Array Value))) hS rfl
  have oth : ∀ b o, b ≠ S → s.heap.get? b = some o → (s.heap.update S (Obj.mapSeq (fun _ => (#[] : Array Value)))).get? b = some o :=
    fun b o hb e => (Heap.get?_update_other _ _ (Ne.symm hb)).trans e
  refine wpAny_bind (wpAny_letGo ?_)
  refine extend_bytes hh hz S .none _ hS₂ fun h' tk acc' c' hk hS' hacc => ?_
  exact hR h' tk acc' c' (fun b o hb e => hk b o hb (oth b o hb e)) hS' hacc

theorem items_ints {b : Array UInt8} {acc : Array Value} (h : ItemsOf (fun i v => ∃ c u, b[i]? = some c ∧ v = .int (c.toNat : Int) u) acc b.size) : IntsAre acc.toList (KBw.bInts b) := by
  have key : ∀ (vs : List Value) (ks : List Int), vs.length = ks.length → (∀ (j : Nat) (v : Value), vs[j]? = some v → ∃ (c : Int) (u : Tok), ks[j]? = some c ∧ v = .int c u) → IntsAre vs ks := by
    intro vs
    induction vs with
    | nil => intro ks hl _; cases ks with
      | nil => exact .nil
      | cons _ _ => cases hl
    | cons v vs ih =>
      intro ks hl hg
      cases ks with
      | nil => cases hl
      | cons k ks =>
        obtain ⟨c, u, hc, rfl⟩ := hg 0 v rfl
        cases hc
        exact .cons _ u (ih ks (by simpa using hl) fun j v hv => hg (j + 1) v hv)
  refine key _ _ (by rw [KBw.ints_length, ← h.1, Array.length_toList]) fun j v hv => ?_
  obtain ⟨c, u, hc, rfl⟩ := h.2 j v (by simpa using hv)
  exact ⟨_, u, KBw.ints_get hc, rfl⟩

/-- list(b) of bytes -/
theorem call_list_bytes {b : Array UInt8} {t : Tok} {Q : Value → Shared → Prop} (hh : A.handled = none) (hz : b.size ≤ sizeLine)
    (h : ∀ h' tk l vs n, (∀ x o, s.heap.get? x = some o → h'.get? x = some o) → s.heap.objs.size ≤ l → h'.get? l = some (listOf vs.toArray n) → IntsAre vs (KBw.bInts b) → Q (.ref l) { s with heap := h', toks := tk }) :
    wpAny (model prog w) A (call (.type "list") [.bytes b t]) Q E s := by
  refine callType_codes (Q₁ := fun obj s₁ => obj = .ref s.heap.objs.size ∧ s₁ = { s with heap := s.heap.push { cls := .type "list", data := .seq #[] } }) F.called_list (F.typeCall_list_1 _) F.entry_list_init
    (code_list_new _ ⟨rfl, rfl⟩) fun obj s₁ h₁ => ?_
  obtain ⟨rfl, rfl⟩ := h₁
  have hS : (s.heap.push { cls := .type "list", data := .seq #[] }).get? s.heap.objs.size = some { cls := .type "list", data := .seq #[] } := Heap.get?_push_size _ rfl
  refine ⟨⟨_, hS, rfl⟩, F.args_list_init_2 _ _, init_bytes (A := A.in1) hh hz _ hS fun h' tk acc' c' hk hS' hacc => ?_⟩
  refine ⟨rfl, h h' tk _ acc'.toList c' (fun b o e => hk b o (Nat.ne_of_lt (Heap.lt_size e)) (Heap.get?_push_of_some _ e)) (Nat.le_refl _) ?_ (items_ints hacc)⟩
  rw [Array.toArray_toList]; exact hS'
end
end Mine
end
section
open PySem PySem.W PySem.Spec PySem.Calls PyProof.Rows
set_option Elab.async false
namespace Mine
set_option maxRecDepth 100000

noncomputable def builtV (f : PySem.Str) : Value := if f == "len" then .builtin "len" else if f == "bytes" then .type "bytes" else .type "list"

section
variable {prog : Program} {w : World} {A : Around} {E : Value → Shared → Prop} {s : Shared} {G : Wo} {h₀ : Heap} {L : Addr} {m : PySem.Str → Option Value} {own fr aux : Led} {W : List Addr} {ρ : Loc} {QQ : Value → Shared → Prop}

theorem len_sound {t : Tr} {Q : Tr → Prop} {v : Value} (h : lenW t Q) (I : Inv G h₀ L s.heap m own fr aux W ρ) (ht : Bor G h₀ own fr t v) (q : VPost G h₀ L m own fr aux W ρ s Q QQ) : wpAny (model prog w) A (call (.builtin "len") [v]) QQ E s := by
  have hb : big = 16777216 := rfl
  cases t <;> first | exact h.elim | skip
  · obtain ⟨b, u, rfl, hx⟩ := ht.bytes
    obtain ⟨hz, hq⟩ := h
    exact KBw.len_K hx (by lia) (q _ s.heap _ fr (.int _) I (fun _ h => h) ⟨_, rfl⟩ hq)
  · obtain ⟨a, vs, rfl, hl, d⟩ := ht.list I
    obtain ⟨hz, hq⟩ := h
    refine PyProof.Rows.len_list hl (by rw [List.size_toArray, d.length]; lia) ?_
    have e := d.length
    rw [← List.size_toArray] at e
    rw [e]
    exact q _ s.heap _ fr (.int _) I (fun _ h => h) ⟨_, rfl⟩ hq

theorem bytes_sound {t : Tr} {Q : Tr → Prop} {v : Value} (hh : A.handled = none) (h : bytesW t Q) (I : Inv G h₀ L s.heap m own fr aux W ρ) (ht : Bor G h₀ own fr t v) (q : VPost G h₀ L m own fr aux W ρ s Q QQ) : wpAny (model prog w) A (call (.type "bytes") [v]) QQ E s := by
  cases t <;> first | exact h.elim | skip
  · obtain ⟨b, u, rfl, hx⟩ := ht.bytes
    exact call_bytes_bytes fun tk => q _ s.heap tk fr (.bytes _) I (fun _ h => h) ⟨_, _, rfl, hx⟩ h
  · obtain ⟨a, vs, rfl, hl, d⟩ := ht.list I
    obtain ⟨ns, rfl, hr, hz, hq⟩ := h
    exact KBa.make_K I.F I.N hh hl d.ints hr hz fun h' t' k F' N' hin => q _ h' k fr (.bytes _) (I.keep F' N') (fun _ h => h) ⟨_, _, rfl, KBa.ints_make hr⟩ hq

theorem list_sound {t : Tr} {Q : Tr → Prop} {v : Value} (hh : A.handled = none) (h : listW t Q) (I : Inv G h₀ L s.heap m own fr aux W ρ) (ht : Bor G h₀ own fr t v) (q : VPost G h₀ L m own fr aux W ρ s Q QQ) : wpAny (model prog w) A (call (.type "list") [v]) QQ E s := by
  cases t <;> first | exact h.elim | skip
  obtain ⟨b, u, rfl, hx⟩ := ht.bytes
  obtain ⟨hz, hq⟩ := h
  refine call_list_bytes hh (by rw [← KBw.ints_length b, hx]; exact Nat.le_trans hz big_le) fun h' tk l vs n k hl hl' hi => ?_
  rw [hx] at hi
  have I' : Inv G h₀ L h' m own ((l, listOf vs.toArray n) :: fr) aux W ρ := I.more (x := [(l, listOf vs.toArray n)]) (I.F.keptAll k) (fun p hp => by
    simp only [List.cons_append, List.nil_append, List.mem_append, List.mem_cons] at hp
    rcases hp with (hp | rfl | hp) | hp
    · exact (I.N.grown k) p (by simp [hp])
    · refine ⟨hl', fun e => ?_, ?_⟩
      · obtain ⟨o, _, _, e1, _⟩ := I.F.ns
        exact absurd (Heap.lt_size e1) (Nat.not_lt.mpr (e ▸ hl))
      · cases q : h₀.get? l with
        | none => rfl
        | some o => exact absurd (Heap.lt_size (I.F.keep _ _ q)) (Nat.not_lt.mpr hl)
    · exact (I.N.grown k) p (by simp [hp])
    · exact (I.N.grown k) p (by simp [hp])) fun p hp => by
      rw [List.mem_singleton.mp hp]
      cases q : s.heap.get? l with
      | none => rfl
      | some o' => exact absurd (Heap.lt_size q) (Nat.not_lt.mpr hl)
  exact q _ h' tk _ (.list _) I' (fun _ h => .tail _ h) ⟨l, _, vs, rfl, .inr (.head _), rfl, ⟨n, rfl⟩, DenL.of_ints hi⟩ hq

theorem built_sound {f : PySem.Str} {t : Tr} {Q : Tr → Prop} {v : Value} (hh : A.handled = none) (h : builtW f t Q) (I : Inv G h₀ L s.heap m own fr aux W ρ) (hv : Bor G h₀ own fr t v) (q : VPost G h₀ L m own fr aux W ρ s Q QQ) :
    wpAny (model prog w) A (call (builtV f) [v]) QQ E s := by
  unfold builtV
  unfold builtW at h
  cases h1 : (f == "len") with
  | true => rw [h1] at h; rw [if_pos rfl]; exact len_sound h I hv q
  | false =>
    rw [h1] at h
    rw [if_neg Bool.false_ne_true]
    cases h2 : (f == "bytes") with
    | true => rw [h2] at h; rw [if_pos rfl]; exact bytes_sound hh h I hv q
    | false => rw [h2] at h; rw [if_neg Bool.false_ne_true]; exact list_sound hh h I hv q
end

noncomputable def locN (sc : Scope) (x : PySem.Str) : Bool := decide (sc.names.lookup x = some .local) && !(x == ("__debug__" : PySem.Str))
noncomputable def gloN (sc : Scope) (x : PySem.Str) : Bool := decide (sc.names.lookup x = some .globalImplicit) && !(x == ("__debug__" : PySem.Str))
noncomputable def isName : Expr → Bool
  | .Name .. => true
  | _ => false
section
variable (sc : Scope)
mutual
/-- the names are what they seem, and no odd form stands in it -/
noncomputable def okE : Expr → Bool
  | .Constant .. => true
  | .Name x _ => locN sc x
  | .BinOp l _ r _ => okE l && okE r
  | .UnaryOp _ e _ => okE e
  | .IfExp t a b _ => okTest t && okE a && okE b
  | .Compare l ops rs _ => okE l && okEs rs && !lastMarks ops rs && ops.length == rs.length
  | .Call f args kw _ => isName f && gloN sc (nameOf f) && okEs args && kw.isEmpty
  | .Slice lo hi none _ => okO lo && okO hi
  | .Subscript v i _ => okE v && okE i
  | .Attribute e _ _ => okE e && isName e
  | .Tuple es _ _ => okEs es && decide (es.length ≤ 1000)
  | .List es _ => okEs es && decide (es.length ≤ 1000)
  | _ => false
noncomputable def okEs : List Expr → Bool
  | [] => true
  | e :: es => okE e && okEs es
noncomputable def okO : Option Expr → Bool
  | none => true
  | some e => okE e
noncomputable def okTest : Expr → Bool
  | .Compare l ops rs _ => okE l && okEs rs && !lastMarks ops rs && ops.length == rs.length
  | .BoolOp _ es _ => okTests es
  | .UnaryOp .Not e _ => okTest e
  | _ => false
noncomputable def okTests : List Expr → Bool
  | [] => true
  | e :: es => okTest e && okTests es
end
end

noncomputable abbrev ENow := (PySem.Str → Option Value) → Led → Led → Led → List Addr → Loc → Heap → Addr → Addr → PySem.Str → Prop

/-- what a frame gives: its names, its calls -/
structure FH (prog : Program) (w : World) (A : Around) (cn : PySem.Str) (sc : Scope) (L fa : Addr) (cd : Value) (G : Wo) (h₀ : Heap) (EN : ENow) (Γ : PySem.Str → Option Spec) (gv : PySem.Str → Option Value) : Prop where
  kind : sc.kind = .function
  hh : A.handled = none
  units : A.units + 8 < cLine
  name : ∀ {x : PySem.Str} {v : Value} {pos : Pos} {s : Shared} {m : PySem.Str → Option Value} {Q E : Value → Shared → Prop}, gv x = some v → gloN sc x = true → Fr h₀ L s.heap m → Q v s → wpAny (model prog w) A (eval (.Name x pos) (envOf cn sc L fa cd)) Q E s
  built : ∀ {f : PySem.Str}, isBuilt f = true → gv f = some (builtV f)
  keeper : ∀ {x : PySem.Str} {v : Value}, gv x = some v → ∀ h : Heap, (∀ b o, h₀.get? b = some o → h.get? b = some o) → ∃ k, (k = Keeper.frame ∨ k = Keeper.machine ∨ k = Keeper.boundFrame) ∧ Looks (model prog w) h (keeperOf v) k
  attr : ∀ {s : Shared} {m : PySem.Str → Option Value} {own fr aux : Led} {W : List Addr} {ρ : Loc} {a : PySem.Str} {t : Tr} {v : Value} {Q : Tr → Prop} {QQ E : Value → Shared → Prop}, attrW a t Q → Inv G h₀ L s.heap m own fr aux W ρ → Den G (PF h₀ fr) t v →
    VPost G h₀ L m own fr aux W ρ s Q QQ → wpAny (model prog w) A (getAttr v a true) QQ E s
  call : ∀ {f : PySem.Str} {sp : Spec}, Γ f = some sp → ∃ v, gv f = some v ∧ ∀ {s : Shared} {m : PySem.Str → Option Value} {own fr aux : Led} {W : List Addr} {ρ : Loc} {ts : List Tr} {vs : List Value} {Q : Tr → Prop} {X : Addr → PySem.Str → Prop} {QQ EE : Value → Shared → Prop},
    Inv G h₀ L s.heap m own fr aux W ρ → DenL G (PF h₀ fr) ts vs → sp ts Q X → VPost G h₀ L m own fr aux W ρ s Q QQ → (∀ e h' tk' C y, EN m own fr aux W ρ h' e C y → X C y → EE (.ref e) { s with heap := h', toks := tk' }) →
    wpAny (model prog w) A (call v vs) QQ EE s

section
variable {prog : Program} {w : World} {A : Around} {cn : PySem.Str} {sc : Scope} {fa : Addr} {cd : Value} {G : Wo} {h₀ h : Heap} {L : Addr} {m : PySem.Str → Option Value} {own fr aux : Led} {W : List Addr} {ρ : Loc} {EN : ENow} {Γ : PySem.Str → Option Spec} {gv : PySem.Str → Option Value}

/-- names that were held alone may have been handed over -/
noncomputable def Fz (ρ ρ' : Loc) : Prop := ∀ x t, (look x ρ = some (.mu t) → look x ρ' = some (.mu t) ∨ look x ρ' = some (.val t)) ∧ (look x ρ = some (.val t) → look x ρ' = some (.val t))
theorem Fz.refl (ρ : Loc) : Fz ρ ρ := fun _ _ => ⟨.inl, id⟩
theorem Fz.trans {ρ ρ' ρ'' : Loc} (x : Fz ρ ρ') (y : Fz ρ' ρ'') : Fz ρ ρ'' := fun n t => ⟨fun h => ((x n t).1 h).elim (fun q => (y n t).1 q) fun q => .inr ((y n t).2 q), fun h => (y n t).2 ((x n t).2 h)⟩
theorem look_upd (x : PySem.Str) (sl : Slot) : ∀ ρ : Loc, look x (upd x sl ρ) = some sl
  | [] => by simp [upd, look]
  | (y, s) :: r => by
    unfold upd
    by_cases h : y = x
    · rw [if_pos h]; simp [look]
    · rw [if_neg h, look, if_neg h]; exact look_upd x sl r
theorem look_upd_ne {x y : PySem.Str} (sl : Slot) (h : x ≠ y) : ∀ ρ : Loc, look y (upd x sl ρ) = look y ρ
  | [] => by simp [upd, look, h]
  | (z, s) :: r => by
    unfold upd
    by_cases q : z = x
    · rw [if_pos q, look, if_neg h, look, if_neg (q ▸ h)]
    · rw [if_neg q, look, look, look_upd_ne sl h r]
theorem Fz.freeze {ρ : Loc} {x : PySem.Str} {t : Tr} (e : look x ρ = some (.mu t)) : Fz ρ (upd x (.val t) ρ) := fun y t' => by
  by_cases h : x = y
  · subst h
    rw [look_upd, e]
    exact ⟨fun q => by cases q; exact .inr rfl, fun q => by cases q⟩
  · rw [look_upd_ne _ h]
    exact ⟨.inl, id⟩

/-- what stands behind an expression: a value, a raised exception -/
noncomputable abbrev EPost (G : Wo) (h₀ : Heap) (L : Addr) (m : PySem.Str → Option Value) (fr aux : Led) (W : List Addr) (ρ : Loc) (s : Shared) (Q : QE) (QQ : Value → Shared → Prop) : Prop :=
  ∀ v h' tk' own' fr' ρ' t, Inv G h₀ L h' m own' fr' aux W ρ' → (∀ p ∈ fr, p ∈ fr') → Fz ρ ρ' → Den G (PF h₀ fr') t v → Q t ρ' → QQ v { s with heap := h', toks := tk' }
noncomputable abbrev XPost (EN : ENow) (m : PySem.Str → Option Value) (aux : Led) (W : List Addr) (s : Shared) (X : XE) (EE : Value → Shared → Prop) : Prop :=
  ∀ e h' tk' own' fr' ρ' C y, EN m own' fr' aux W ρ' h' e C y → X C y ρ' → EE (.ref e) { s with heap := h', toks := tk' }
noncomputable abbrev LPost (G : Wo) (h₀ : Heap) (L : Addr) (m : PySem.Str → Option Value) (fr aux : Led) (W : List Addr) (ρ : Loc) (s : Shared) (n : Nat) (Q : List Tr → Loc → Prop) (QQ : List Value → Shared → Prop) : Prop :=
  ∀ vs h' tk' own' fr' ρ' ts, Inv G h₀ L h' m own' fr' aux W ρ' → (∀ p ∈ fr, p ∈ fr') → Fz ρ ρ' → DenL G (PF h₀ fr') ts vs → ts.length = n → Q ts ρ' → QQ vs { s with heap := h', toks := tk' }
noncomputable abbrev BPost (G : Wo) (h₀ : Heap) (L : Addr) (m : PySem.Str → Option Value) (fr aux : Led) (W : List Addr) (ρ : Loc) (s : Shared) (Q : Bool → Loc → Prop) (QQ : Bool → Shared → Prop) : Prop :=
  ∀ c h' tk' own' fr' ρ', Inv G h₀ L h' m own' fr' aux W ρ' → (∀ p ∈ fr, p ∈ fr') → Fz ρ ρ' → Q c ρ' → QQ c { s with heap := h', toks := tk' }

theorem locN_of {x : PySem.Str} (h : locN sc x = true) : (envOf cn sc L fa cd).kindOf x = some .local ∧ (x == ("__debug__" : PySem.Str)) = false := by
  simp only [locN, Bool.and_eq_true, decide_eq_true_eq, Bool.not_eq_true'] at h
  exact h
theorem Inv.look (I : Inv G h₀ L h m own fr aux W ρ) {x : PySem.Str} {t : Tr} (e : look x ρ = some (.val t) ∨ look x ρ = some (.mu t)) : ∃ v, m x = some v ∧ Bor G h₀ own fr t v := by
  obtain ⟨o1, c, o2, h1, _, h3, _⟩ := I.S.loc.at x I.S.nd
  rcases e with e | e
  · obtain ⟨v, hv, hs⟩ := h3 _ e
    cases hs with
    | val d => exact ⟨v, hv, .inl d⟩
  · obtain ⟨v, hv, hs⟩ := h3 _ e
    cases hs with
    | mu d => exact ⟨v, hv, .inr ⟨c, d, fun p hp => by rw [h1]; simp [hp]⟩⟩
theorem Inv.look_val (I : Inv G h₀ L h m own fr aux W ρ) {x : PySem.Str} {t : Tr} (e : Mine.look x ρ = some (.val t)) : ∃ v, m x = some v ∧ Den G (PF h₀ fr) t v := by
  obtain ⟨o1, c, o2, h1, _, h3, _⟩ := I.S.loc.at x I.S.nd
  obtain ⟨v, hv, hs⟩ := h3 _ e
  cases hs with
  | val d => exact ⟨v, hv, d⟩
theorem borrow_name {e : Expr} {t : Tr} (h : borrow ρ e = some t) : ∃ x p, e = .Name x p ∧ (look x ρ = some (.val t) ∨ look x ρ = some (.mu t)) := by
  cases e <;> first | exact nope h | skip
  rename_i x p
  refine ⟨x, p, rfl, ?_⟩
  replace h : (match look x ρ with
      | some (.val t) => some t
      | some (.mu t) => some t
      | none => none) = some t := h
  cases hl : look x ρ with
  | none => rw [hl] at h; exact nope h
  | some sl =>
    rw [hl] at h
    cases sl with
    | val u => cases (show some u = some t from h); exact .inl rfl
    | mu u => cases (show some u = some t from h); exact .inr rfl
theorem Fz.look {ρ ρ' : Loc} (f : Fz ρ ρ') {x : PySem.Str} {t : Tr} (e : Mine.look x ρ = some (.val t) ∨ Mine.look x ρ = some (.mu t)) : Mine.look x ρ' = some (.val t) ∨ Mine.look x ρ' = some (.mu t) :=
  e.elim (fun q => .inl ((f x t).2 q)) fun q => ((f x t).1 q).symm
end
end Mine
end
section
open PySem PySem.W PySem.Spec PySem.Calls PyProof.Rows
set_option Elab.async false
namespace Mine
set_option maxRecDepth 100000
set_option linter.unusedVariables false
set_option linter.unusedSectionVars false

theorem not1 {b : Bool} (h : (!b) = true) : b = false := by cases b with
  | false => rfl
  | true => cases h
theorem and2 {a b : Bool} (h : (a && b) = true) : a = true ∧ b = true := Bool.and_eq_true_iff.mp h
section
variable {sc : Scope}
theorem star_ok {e : Expr} {rest : List Expr} {env : Env} (h : okE sc e = true) : starEach (e :: rest) env = (false, eval e env) :: starEach rest env := by
  cases e <;> first | rfl | exact absurd (show false = true from h) Bool.false_ne_true
theorem back_cons {pos : Pos} {t : Sem Value} {r : List (Bool × Sem Value)} : backTo pos ((false, t) :: r) = (false, t) :: backTo pos r := rfl
theorem back_plain {pos : Pos} {env : Env} : ∀ {es : List Expr}, okEs sc es = true → (backTo pos (starEach es env)).any (·.1) = false
  | [], _ => rfl
  | e :: es, h => by
    replace h := and2 h
    rw [star_ok h.1]
    show (false || (backTo pos (starEach es env)).any (·.1)) = false
    rw [back_plain h.2]; rfl
end

section
variable {prog : Program} {w : World} {A : Around} {cn : PySem.Str} {sc : Scope} {fa : Addr} {cd : Value} {G : Wo} {h₀ : Heap} {L : Addr} {m : PySem.Str → Option Value} {aux : Led} {W : List Addr} {EN : ENow} {Γ : PySem.Str → Option Spec} {gv : PySem.Str → Option Value}
variable (H : FH prog w A cn sc L fa cd G h₀ EN Γ gv)

/-- the soundness of one expression -/
noncomputable abbrev SE (prog : Program) (w : World) (A : Around) (cn : PySem.Str) (sc : Scope) (L fa : Addr) (cd : Value) (G : Wo) (h₀ : Heap) (EN : ENow) (Γ : PySem.Str → Option Spec) (m : PySem.Str → Option Value) (aux : Led) (W : List Addr) (e : Expr) : Prop :=
  ∀ {ρ : Loc} {Q : QE} {X : XE} {s : Shared} {own fr : Led} {QQ EE : Value → Shared → Prop}, okE sc e = true → wpE Γ e ρ Q X → Inv G h₀ L s.heap m own fr aux W ρ → EPost G h₀ L m fr aux W ρ s Q QQ → XPost EN m aux W s X EE →
    wpAny (model prog w) A (eval e (envOf cn sc L fa cd)) QQ EE s

/-- a name, held somehow, is read -/
theorem small_len {vs : List Value} {es : List Expr} (h : vs.length = es.length) (ok : decide (es.length ≤ 1000) = true) : vs.length ≤ sizeLine := by
  rw [h, sizeLine_eq]; have := of_decide_eq_true ok; lia
theorem read_name (H : FH prog w A cn sc L fa cd G h₀ EN Γ gv) {ρ : Loc} {x : PySem.Str} {p : Pos} {t : Tr} {s : Shared} {own fr : Led} {QQ EE : Value → Shared → Prop} (ok : locN sc x = true) (I : Inv G h₀ L s.heap m own fr aux W ρ) (e : look x ρ = some (.val t) ∨ look x ρ = some (.mu t))
    (k : ∀ v, m x = some v → Bor G h₀ own fr t v → QQ v s) : wpAny (model prog w) A (eval (.Name x p) (envOf cn sc L fa cd)) QQ EE s := by
  obtain ⟨v, hv, b⟩ := I.look e
  obtain ⟨o1, o2⟩ := locN_of (cn := cn) (fa := fa) (cd := cd) (L := L) ok
  exact ld I.F hv (k v hv b) H.kind o1 o2

theorem const_sound {c : Const} {k : Nat} {p : Pos} {ρ : Loc} {Q : QE} {X : XE} {s : Shared} {own fr : Led} {env : Env} {QQ EE : Value → Shared → Prop} (h : wpE Γ (.Constant c k p) ρ Q X) (I : Inv G h₀ L s.heap m own fr aux W ρ) (q : EPost G h₀ L m fr aux W ρ s Q QQ) :
    wpAny (model prog w) A (eval (.Constant c k p) env) QQ EE s := by
  have now : ∀ (v : Value) (tk : Nat) (t : Tr), Den G (PF h₀ fr) t v → Q t ρ → QQ v { s with toks := tk } := fun v tk t d hq => q v s.heap tk own fr ρ t I (fun _ h => h) (Fz.refl ρ) d hq
  cases c <;> first | exact h.elim | skip
  · exact wpAny_Constant_none (now _ _ .none rfl h)
  · exact wpAny_Constant_bool (now _ _ (.bool _) rfl h)
  · exact wpAny_Constant_int (now _ _ (.int _) ⟨_, rfl⟩ h)
  · exact wpAny_Constant_str (now _ _ (.str _) ⟨_, rfl⟩ h)
  · exact Constant_bytes (now _ _ (.bytes _) ⟨_, _, rfl, KBw.ints_list _⟩ h)

theorem callee_sound (H : FH prog w A cn sc L fa cd G h₀ EN Γ gv) {f : Expr} {v : Value} {pos : Pos} {args : List Expr} {s : Shared} {own fr : Led} {ρ : Loc} {QQ EE : Value → Shared → Prop} (ok : isName f = true ∧ gloN sc (nameOf f) = true) (oka : okEs sc args = true) (hv : gv (nameOf f) = some v) (I : Inv G h₀ L s.heap m own fr aux W ρ)
    (h : wpAny (model prog w) A (evalArgs v true (backTo pos (starEach args (envOf cn sc L fa cd))) []) (fun a s₁ => (∀ b o, h₀.get? b = some o → s₁.heap.get? b = some o) ∧ wpAny (model prog w) A (call v a.pos a.kw) QQ EE s₁) EE s) :
    wpAny (model prog w) A (eval (.Call f args [] pos) (envOf cn sc L fa cd)) QQ EE s := by
  cases f <;> first | exact absurd (show false = true from ok.1) Bool.false_ne_true | skip
  rename_i x p
  rw [arm_eval_Call_Name']
  refine wpAny_bind (H.name hv ok.2 I.F ?_)
  refine callWith_of (P := fun h => ∀ b o, h₀.get? b = some o → h.get? b = some o) (by rw [back_plain oka]; rfl) (fun h hk => H.keeper hv h hk) ?_
  exact h

theorem args_nil {v : Value} {pos : Pos} {env : Env} {s : Shared} {Q : Args → Shared → Prop} {EE : Value → Shared → Prop} (h : Q ⟨[], []⟩ s) : wpAny (model prog w) A (evalArgs v true (backTo pos (starEach [] env)) []) Q EE s := evalArgs_nil3 h
theorem args_cons {v : Value} {pos : Pos} {env : Env} {e : Expr} {es : List Expr} {s : Shared} {Q : Args → Shared → Prop} {EE : Value → Shared → Prop} (ok : okE sc e = true) (h : wpAny (model prog w) A (spliced (backTo pos (starEach (e :: es) env))) (fun vs s' => Q ⟨vs, []⟩ s') EE s) :
    wpAny (model prog w) A (evalArgs v true (backTo pos (starEach (e :: es) env)) []) Q EE s := by
  rw [star_ok ok] at h ⊢
  exact evalArgs_plain h

theorem args_all {v : Value} {pos : Pos} {env : Env} {es : List Expr} {s : Shared} {Q : Args → Shared → Prop} {EE : Value → Shared → Prop} (ok : okEs sc es = true) (hn : es = [] → Q ⟨[], []⟩ s) (h : wpAny (model prog w) A (spliced (backTo pos (starEach es env))) (fun vs s' => Q ⟨vs, []⟩ s') EE s) :
    wpAny (model prog w) A (evalArgs v true (backTo pos (starEach es env)) []) Q EE s := by
  cases es with
  | nil => exact args_nil (hn rfl)
  | cons e es => exact args_cons (and2 ok).1 h
theorem borrowL_name {es : List Expr} {ρ : Loc} {t : Tr} (h : borrowL ρ es = some t) : ∃ e x p, es = [e] ∧ e = .Name x p ∧ (look x ρ = some (.val t) ∨ look x ρ = some (.mu t)) := by
  cases es with
  | nil => cases h
  | cons e es =>
    cases es with
    | nil =>
      obtain ⟨x, p, h⟩ := borrow_name h
      exact ⟨e, x, p, rfl, h⟩
    | cons _ _ => cases h
theorem one_of {P : Facts} {ts : List Tr} {vs : List Value} {K : Tr → Prop} (d : DenL G P ts vs) (h : oneT ts K) : ∃ t v, ts = [t] ∧ vs = [v] ∧ Den G P t v ∧ K t := by
  cases ts with
  | nil => exact h.elim
  | cons t ts =>
    cases ts with
    | nil =>
      obtain ⟨v, r, rfl, dv, rfl⟩ := d
      exact ⟨t, v, rfl, rfl, dv, h⟩
    | cons _ _ => exact h.elim

theorem cmp_step (H : FH prog w A cn sc L fa cd G h₀ EN Γ gv) {op : CmpOp} {a b : Tr} {va vb : Value} {Q : Bool → Prop} {s : Shared} {own fr : Led} {ρ : Loc} {QQ EE : Value → Shared → Prop} (h : cmpW op a b Q) (I : Inv G h₀ L s.heap m own fr aux W ρ) (ha : Den G (PF h₀ fr) a va) (hb : Den G (PF h₀ fr) b vb)
    (k : ∀ c, Q c → QQ (.bool c) s) : wpAny (model prog w) A (compareOp op va vb) QQ EE s := cmp_sound h (fun a o p => I.pf p) ha hb H.units k

theorem no_SE {e : Expr} (h : ∀ ρ Q X, wpE Γ e ρ Q X → False) : SE prog w A cn sc L fa cd G h₀ EN Γ m aux W e := fun _ k => (h _ _ _ k).elim
/-- the soundness of one test -/
noncomputable abbrev ST (prog : Program) (w : World) (A : Around) (cn : PySem.Str) (sc : Scope) (L fa : Addr) (cd : Value) (G : Wo) (h₀ : Heap) (EN : ENow) (Γ : PySem.Str → Option Spec) (m : PySem.Str → Option Value) (aux : Led) (W : List Addr) (e : Expr) : Prop :=
  ∀ {whole : Sem Value} {ρ : Loc} {Q : Bool → Loc → Prop} {X : XE} {s : Shared} {own fr : Led} {QQ : Bool → Shared → Prop} {EE : Value → Shared → Prop}, okTest sc e = true → wpT Γ e ρ Q X → Inv G h₀ L s.heap m own fr aux W ρ →
    BPost G h₀ L m fr aux W ρ s Q QQ → XPost EN m aux W s X EE → wpAny (model prog w) A (isTrue e (envOf cn sc L fa cd) whole) QQ EE s
theorem no_ST {e : Expr} (h : ∀ ρ Q X, wpT Γ e ρ Q X → False) : ST prog w A cn sc L fa cd G h₀ EN Γ m aux W e := fun _ k => (h _ _ _ k).elim
section
variable (H : FH prog w A cn sc L fa cd G h₀ EN Γ gv)
include H
mutual
theorem soundE : ∀ (e : Expr), SE prog w A cn sc L fa cd G h₀ EN Γ m aux W e
  | .Constant c k p => fun ok h I q x => by
    rename_i ρ Q X s own fr QQ EE
    exact const_sound h I q
  | .Name y p => fun ok h I q x => by
    rename_i ρ Q X s own fr QQ EE
    replace h : (match (generalizing := false) look y ρ with
      | some (.val t) => Q t ρ
      | some (.mu t) => Q t (upd y (.val t) ρ)
      | none => False) := h
    cases hl : look y ρ with
    | none => rw [hl] at h; exact h.elim
    | some sl =>
      rw [hl] at h
      cases sl with
      | val t =>
        obtain ⟨v, hv, d⟩ := I.look_val hl
        obtain ⟨o1, o2⟩ := locN_of (cn := cn) (fa := fa) (cd := cd) (L := L) ok
        exact ld I.F hv (q v s.heap s.toks own fr ρ t I (fun _ h => h) (Fz.refl ρ) d h) H.kind o1 o2
      | mu t =>
        obtain ⟨own', fr', v, I', hfr, hv, d, _⟩ := I.freeze hl
        obtain ⟨o1, o2⟩ := locN_of (cn := cn) (fa := fa) (cd := cd) (L := L) ok
        exact ld I.F hv (q v s.heap s.toks own' fr' _ t I' hfr (Fz.freeze hl) d h) H.kind o1 o2
  | .BinOp l op r p => fun ok h I q x => by
    rename_i ρ Q X s own fr QQ EE
    replace ok := and2 ok
    refine wpAny_BinOp (soundE l ok.1 (Q := fun a ρ1 => wpE Γ r ρ1 (fun b ρ2 => binW op a b fun t => Q t ρ2) X) h I (fun a h1 tk1 own1 fr1 ρ1 ta I1 f1 z1 d1 q1 => ?_) x)
    refine soundE r ok.2 q1 I1 (fun b h2 tk2 own2 fr2 ρ2 tb I2 f2 z2 d2 q2 => ?_) x
    refine bin_sound q2 I2 (d1.mono (PF.mono f2)) d2 fun v h3 tk3 fr3 t I3 f3 d3 q3 => ?_
    exact q v h3 tk3 own2 fr3 ρ2 t I3 (fun p hp => f3 p (f2 p (f1 p hp))) (z1.trans z2) d3 q3
  | .UnaryOp op e p => fun ok h I q x => by
    rename_i ρ Q X s own fr QQ EE
    refine wpAny_UnaryOp (soundE e ok (Q := fun a ρ1 => match (generalizing := false) op, a with
      | .USub, .int i => Q (.int (-i)) ρ1
      | _, _ => False) h I (fun a h1 tk1 own1 fr1 ρ1 ta I1 f1 z1 d1 q1 => ?_) x)
    cases op <;> first | exact q1.elim | skip
    cases ta <;> first | exact q1.elim | skip
    obtain ⟨t, rfl⟩ := d1
    exact PyProof.Rows.neg_int (q _ _ _ own1 fr1 ρ1 (.int _) I1 f1 z1 ⟨_, rfl⟩ q1)
  | .IfExp t a b p => fun ok h I q x => by
    rename_i ρ Q X s own fr QQ EE
    obtain ⟨ok, o3⟩ := and2 ok
    replace ok := and2 ok
    refine IfExp_ (soundT t ok.1 (Q := fun c ρ1 => (c = true → wpE Γ a ρ1 Q X) ∧ (c = false → wpE Γ b ρ1 Q X)) h I (fun c h1 tk1 own1 fr1 ρ1 I1 f1 z1 q1 => ?_) x)
    have q' : EPost G h₀ L m fr1 aux W ρ1 { s with heap := h1, toks := tk1 } Q QQ := fun v h3 tk3 own3 fr3 ρ3 t I3 f3 z3 d3 q3 => q v h3 tk3 own3 fr3 ρ3 t I3 (fun p hp => f3 p (f1 p hp)) (z1.trans z3) d3 q3
    cases c with
    | true => exact soundE a ok.2 (q1.1 rfl) I1 q' x
    | false => exact soundE b o3 (q1.2 rfl) I1 q' x
  | .Compare l ops rs p => fun ok h I q x => by
    rename_i ρ Q X s own fr QQ EE
    obtain ⟨ok, o4⟩ := and2 ok
    obtain ⟨ok, o3⟩ := and2 ok
    obtain ⟨o1, o2⟩ := and2 ok
    have o3 := not1 o3
    have o4 := beq_iff_eq.mp o4
    show wpAny _ _ (do compareChain p (← eval l _) ops (markedEach ops rs (evalEach rs _))) _ _ _
    rw [markedEach_of_false _ _ _ o3]
    refine wpAny_bind (soundE l o1 (Q := fun a ρ1 => wpC Γ a ops rs ρ1 (fun c ρ2 => Q (.bool c) ρ2) X) h I (fun a h1 tk1 own1 fr1 ρ1 ta I1 f1 z1 d1 q1 => ?_) x)
    refine soundC rs o2 o4 q1 I1 d1 (fun c h3 tk3 own3 fr3 ρ3 I3 f3 z3 q3 => ?_) x
    exact q _ h3 tk3 own3 fr3 ρ3 (.bool c) I3 (fun p hp => f3 p (f1 p hp)) (z1.trans z3) rfl q3
  | .Call f args [] p => fun ok h I q x => by
    rename_i ρ Q X s own fr QQ EE
    obtain ⟨o1, o2⟩ := and2 (and2 (and2 ok).1).1
    have o3 := (and2 (and2 ok).1).2
    clear ok
    replace h : (match (generalizing := false) isBuilt (nameOf f) with
      | true => (match (generalizing := false) borrowL ρ args with
          | some t => builtW (nameOf f) t fun t => Q t ρ
          | none => wpL Γ args ρ (fun ts ρ1 => oneT ts fun t => builtW (nameOf f) t fun t => Q t ρ1) X)
      | false => (match (generalizing := false) Γ (nameOf f) with
          | some sp => wpL Γ args ρ (fun ts ρ1 => sp ts (fun t => Q t ρ1) fun c y => X c y ρ1) X
          | none => False)) := h
    cases hb : isBuilt (nameOf f) with
    | true =>
      rw [hb] at h
      refine callee_sound H ⟨o1, o2⟩ o3 (H.built hb) I ?_
      cases hbr : borrowL ρ args with
      | some t =>
        rw [hbr] at h
        obtain ⟨e, y, pn, rfl, rfl, hl⟩ := borrowL_name hbr
        replace o3 := and2 o3
        refine args_cons o3.1 ?_
        rw [star_ok o3.1, back_cons]
        refine spliced_cons ?_
        refine read_name H o3.1 I hl fun v hv b => spliced_nil ⟨I.F.keep, ?_⟩
        exact built_sound H.hh h I b fun v h3 tk3 fr3 t I3 f3 d3 q3 => q v h3 tk3 own fr3 ρ t I3 f3 (Fz.refl ρ) d3 q3
      | none =>
        rw [hbr] at h
        refine args_all o3 (fun e => by subst e; exact h.elim) (soundL args o3 h I (fun vs h1 tk1 own1 fr1 ρ1 ts I1 f1 z1 d1 _ q1 => ⟨I1.F.keep, ?_⟩) x)
        obtain ⟨t, v, rfl, rfl, d1, q1⟩ := one_of d1 q1
        exact built_sound H.hh q1 I1 (.inl d1) fun v h3 tk3 fr3 t I3 f3 d3 q3 => q v h3 tk3 own1 fr3 ρ1 t I3 (fun p hp => f3 p (f1 p hp)) z1 d3 q3
    | false =>
      rw [hb] at h
      cases hs : Γ (nameOf f) with
      | none => rw [hs] at h; exact h.elim
      | some sp =>
        rw [hs] at h
        obtain ⟨v, hv, hc⟩ := H.call hs
        refine callee_sound H ⟨o1, o2⟩ o3 hv I ?_
        have fin : LPost G h₀ L m fr aux W ρ s args.length (fun ts ρ1 => sp ts (fun t => Q t ρ1) fun c y => X c y ρ1) (fun vs s₁ => (∀ b o, h₀.get? b = some o → s₁.heap.get? b = some o) ∧ wpAny (model prog w) A (call v vs []) QQ EE s₁) :=
          fun vs h1 tk1 own1 fr1 ρ1 ts I1 f1 z1 d1 _ q1 => ⟨I1.F.keep, hc I1 d1 q1 (fun v h3 tk3 fr3 t I3 f3 d3 q3 => q v h3 tk3 own1 fr3 ρ1 t I3 (fun p hp => f3 p (f1 p hp)) z1 d3 q3) fun e h' tk' C y he hx => x e h' tk' own1 fr1 ρ1 C y he hx⟩
        exact args_all o3 (fun e => by subst e; exact fin [] s.heap s.toks own fr ρ [] I (fun _ h => h) (Fz.refl ρ) rfl rfl h) (soundL args o3 h I fin x)
  | .Slice lo hi none ps => fun ok h I q x => by
    rename_i ρ Q X s own fr QQ EE
    replace ok := and2 ok
    refine wpAny_Slice (soundO lo ok.1 (Q := fun l ρ1 => wpO Γ hi ρ1 (fun u ρ2 => Q (.slice l u) ρ2) X) h I (fun l h1 tk1 own1 fr1 ρ1 lv I1 f1 z1 d1 q1 => ?_) x)
    refine soundO hi ok.2 q1 I1 (fun u h2 tk2 own2 fr2 ρ2 hv I2 f2 z2 d2 q2 => wpAny_pure ?_) x
    exact q _ _ _ own2 ((_, _) :: fr2) ρ2 (.slice lv hv) (Inv.alloc (s := { s with heap := h2 }) I2 (I2.F.push _) (News.push I2.F I2.N _) (Nat.le_refl _)) (fun p hp => .tail _ (f2 p (f1 p hp))) (z1.trans z2) ⟨_, _, l, u, rfl, .inr (.head _), rfl, rfl, d1, d2⟩ q2
  | .Subscript v i p => fun ok h I q x => by
    rename_i ρ Q X s own fr QQ EE
    replace ok := and2 ok
    replace h : (match (generalizing := false) borrow ρ v with
      | some t => wpE Γ i ρ (fun k ρ1 => itemW t k fun t => Q t ρ1) X
      | none => wpE Γ v ρ (fun t ρ0 => wpE Γ i ρ0 (fun k ρ1 => itemW t k fun t => Q t ρ1) X) X) := h
    refine Subscript_ ?_
    cases hbr : borrow ρ v with
    | some t =>
      rw [hbr] at h
      obtain ⟨y, pn, rfl, hl⟩ := borrow_name hbr
      refine read_name H ok.1 I hl fun vt hv b => ?_
      refine soundE i ok.2 h I (fun iv h1 tk1 own1 fr1 ρ1 k I1 f1 z1 d1 q1 => ?_) x
      obtain ⟨v', hv', b'⟩ := I1.look (z1.look hl)
      rw [hv] at hv'; cases hv'
      exact item_sound q1 I1 b' d1 fun v h3 tk3 fr3 t I3 f3 d3 q3 => q v h3 tk3 own1 fr3 ρ1 t I3 (fun p hp => f3 p (f1 p hp)) z1 d3 q3
    | none =>
      rw [hbr] at h
      refine soundE v ok.1 h I (fun vt h1 tk1 own1 fr1 ρ1 t I1 f1 z1 d1 q1 => ?_) x
      refine soundE i ok.2 q1 I1 (fun iv h2 tk2 own2 fr2 ρ2 k I2 f2 z2 d2 q2 => ?_) x
      exact item_sound q2 I2 (.inl (d1.mono (PF.mono f2))) d2 fun v h3 tk3 fr3 t I3 f3 d3 q3 => q v h3 tk3 own2 fr3 ρ2 t I3 (fun p hp => f3 p (f2 p (f1 p hp))) (z1.trans z2) d3 q3
  | .Attribute e a p => fun ok h I q x => by
    rename_i ρ Q X s own fr QQ EE
    replace ok := and2 ok
    replace h : wpE Γ e ρ (fun t ρ1 => attrW a t fun t => Q t ρ1) X := h
    cases e <;> first | exact absurd (show false = true from ok.2) Bool.false_ne_true | skip
    refine Attribute_name (soundE _ ok.1 h I (fun vt h1 tk1 own1 fr1 ρ1 t I1 f1 z1 d1 q1 => ?_) x)
    exact H.attr q1 I1 d1 fun v h3 tk3 fr3 t I3 f3 d3 q3 => q v h3 tk3 own1 fr3 ρ1 t I3 (fun p hp => f3 p (f1 p hp)) z1 d3 q3
  | .Tuple es k p => fun ok h I q x => by
    rename_i ρ Q X s own fr QQ EE
    replace ok := and2 ok
    refine Tuple_ (soundL es ok.1 (Q := fun ts ρ1 => Q (.tup ts) ρ1) h I (fun vs h1 tk1 own1 fr1 ρ1 ts I1 f1 z1 d1 n1 q1 => ?_) x)
    refine newTuple_N I1.F I1.N (fun h' F' N' => ?_) (small_len (d1.length.trans n1) ok.2)
    exact q _ h' _ own1 ((_, _) :: fr1) ρ1 (.tup ts) (I1.alloc F' N' (Nat.le_refl _)) (fun p hp => .tail _ (f1 p hp)) z1 ⟨_, _, vs, rfl, .inr (.head _), rfl, ⟨0, rfl⟩, d1.mono (PF.mono fun _ h => .tail _ h)⟩ q1
  | .List es p => fun ok h I q x => by
    rename_i ρ Q X s own fr QQ EE
    replace ok := and2 ok
    refine List_ (soundL es ok.1 (Q := fun ts ρ1 => Q (.list ts) ρ1) h I (fun vs h1 tk1 own1 fr1 ρ1 ts I1 f1 z1 d1 n1 q1 => ?_) x)
    refine newList_N I1.F I1.N (fun h' F' N' => ?_) (small_len (d1.length.trans n1) ok.2)
    exact q _ h' _ own1 ((_, _) :: fr1) ρ1 (.list ts) (I1.alloc F' N' (Nat.le_refl _)) (fun p hp => .tail _ (f1 p hp)) z1 ⟨_, _, vs, rfl, .inr (.head _), rfl, ⟨0, rfl⟩, d1.mono (PF.mono fun _ h => .tail _ h)⟩ q1
  | .Call _ _ (_ :: _) _ => no_SE (by exact fun _ _ _ h => h)
  | .BoolOp .. => no_SE (by exact fun _ _ _ h => h)
  | .NamedExpr .. => no_SE (by exact fun _ _ _ h => h)
  | .Lambda .. => no_SE (by exact fun _ _ _ h => h)
  | .Dict .. => no_SE (by exact fun _ _ _ h => h)
  | .Set .. => no_SE (by exact fun _ _ _ h => h)
  | .ListComp .. => no_SE (by exact fun _ _ _ h => h)
  | .SetComp .. => no_SE (by exact fun _ _ _ h => h)
  | .DictComp .. => no_SE (by exact fun _ _ _ h => h)
  | .GeneratorExp .. => no_SE (by exact fun _ _ _ h => h)
  | .Await .. => no_SE (by exact fun _ _ _ h => h)
  | .Yield .. => no_SE (by exact fun _ _ _ h => h)
  | .YieldFrom .. => no_SE (by exact fun _ _ _ h => h)
  | .FormattedValue .. => no_SE (by exact fun _ _ _ h => h)
  | .JoinedStr .. => no_SE (by exact fun _ _ _ h => h)
  | .Starred .. => no_SE (by exact fun _ _ _ h => h)
  | .Slice _ _ (some _) _ => no_SE (by exact fun _ _ _ h => h)
theorem soundL : ∀ (es : List Expr) {ρ : Loc} {Q : List Tr → Loc → Prop} {X : XE} {s : Shared} {own fr : Led} {pos : Pos} {QQ : List Value → Shared → Prop} {EE : Value → Shared → Prop}, okEs sc es = true → wpL Γ es ρ Q X → Inv G h₀ L s.heap m own fr aux W ρ →
    LPost G h₀ L m fr aux W ρ s es.length Q QQ → XPost EN m aux W s X EE → wpAny (model prog w) A (spliced (backTo pos (starEach es (envOf cn sc L fa cd)))) QQ EE s
  | [] => fun ok h I q x => by
    rename_i ρ Q X s own fr pos QQ EE
    exact spliced_nil (q [] s.heap s.toks own fr ρ [] I (fun _ h => h) (Fz.refl ρ) rfl rfl h)
  | e :: es => fun ok h I q x => by
    rename_i ρ Q X s own fr pos QQ EE
    replace ok := and2 ok
    rw [star_ok ok.1, back_cons]
    refine spliced_cons (soundE e ok.1 (Q := fun t ρ1 => wpL Γ es ρ1 (fun ts ρ2 => Q (t :: ts) ρ2) X) h I (fun v h1 tk1 own1 fr1 ρ1 t I1 f1 z1 d1 q1 => ?_) x)
    refine soundL es ok.2 q1 I1 (fun vs h2 tk2 own2 fr2 ρ2 ts I2 f2 z2 d2 n2 q2 => ?_) x
    exact q _ h2 tk2 own2 fr2 ρ2 (t :: ts) I2 (fun p hp => f2 p (f1 p hp)) (z1.trans z2) (.cons (d1.mono (PF.mono f2)) d2) (congrArg (· + 1) n2) q2
theorem soundO : ∀ (o : Option Expr) {ρ : Loc} {Q : Option Int → Loc → Prop} {X : XE} {s : Shared} {own fr : Led} {QQ EE : Value → Shared → Prop}, okO sc o = true → wpO Γ o ρ Q X → Inv G h₀ L s.heap m own fr aux W ρ →
    (∀ v h' tk' own' fr' ρ' i, Inv G h₀ L h' m own' fr' aux W ρ' → (∀ p ∈ fr, p ∈ fr') → Fz ρ ρ' → IsPart v i → Q i ρ' → QQ v { s with heap := h', toks := tk' }) → XPost EN m aux W s X EE → wpAny (model prog w) A (evalPart o (envOf cn sc L fa cd)) QQ EE s
  | none => fun ok h I q x => by
    rename_i ρ Q X s own fr QQ EE
    exact wpAny_pure (q _ s.heap s.toks own fr ρ none I (fun _ h => h) (Fz.refl ρ) .none h)
  | some e => fun ok h I q x => by
    rename_i ρ Q X s own fr QQ EE
    refine soundE e ok (Q := fun t ρ1 => match (generalizing := false) t with
      | .int i => Q (some i) ρ1
      | _ => False) h I (fun v h1 tk1 own1 fr1 ρ1 t I1 f1 z1 d1 q1 => ?_) x
    cases t <;> first | exact q1.elim | skip
    obtain ⟨u, rfl⟩ := d1
    exact q _ h1 tk1 own1 fr1 ρ1 (some _) I1 f1 z1 (.int _ _) q1
theorem soundC : ∀ (rs : List Expr) {ops : List CmpOp} {a : Tr} {va : Value} {pos : Pos} {ρ : Loc} {Q : Bool → Loc → Prop} {X : XE} {s : Shared} {own fr : Led} {QQ EE : Value → Shared → Prop}, okEs sc rs = true → ops.length = rs.length → wpC Γ a ops rs ρ Q X → Inv G h₀ L s.heap m own fr aux W ρ →
    Den G (PF h₀ fr) a va → BPost G h₀ L m fr aux W ρ s Q (fun c => QQ (.bool c)) → XPost EN m aux W s X EE → wpAny (model prog w) A (compareChain pos va ops (evalEach rs (envOf cn sc L fa cd))) QQ EE s
  | [] => fun ok hn h I d q x => by
    rename_i ops a va pos ρ Q X s own fr QQ EE
    cases ops <;> exact h.elim
  | [r] => fun ok hn h I d q x => by
    rename_i ops a va pos ρ Q X s own fr QQ EE
    match ops, hn, h with
    | [op], hn, h =>
      refine chain_last (soundE r (and2 ok).1 (Q := fun b ρ1 => cmpW op a b fun c => Q c ρ1) h I (fun b h1 tk1 own1 fr1 ρ1 tb I1 f1 z1 d1 q1 => ?_) x)
      exact cmp_step H q1 I1 (d.mono (PF.mono f1)) d1 fun c hc => q c h1 tk1 own1 fr1 ρ1 I1 f1 z1 hc
  | r :: r' :: rs => fun ok hn h I d q x => by
    rename_i ops a va pos ρ Q X s own fr QQ EE
    match ops, hn, h with
    | op :: op' :: ops, hn, h =>
      have ok' := and2 ok
      refine chain_link (soundE r ok'.1 (Q := fun b ρ1 => cmpW op a b fun c => (c = true → wpC Γ b (op' :: ops) (r' :: rs) ρ1 Q X) ∧ (c = false → Q false ρ1)) h I (fun b h1 tk1 own1 fr1 ρ1 tb I1 f1 z1 d1 q1 => ?_) x)
      refine cmp_step H q1 I1 (d.mono (PF.mono f1)) d1 fun c hc => wpAny_truthy_bool ?_
      cases c with
      | true =>
        exact soundC (r' :: rs) (ops := op' :: ops) ok'.2 (Nat.succ.inj hn) (hc.1 rfl) I1 d1 (fun c h3 tk3 own3 fr3 ρ3 I3 f3 z3 q3 => q c h3 tk3 own3 fr3 ρ3 I3 (fun p hp => f3 p (f1 p hp)) (z1.trans z3) q3) x
      | false => exact q false h1 tk1 own1 fr1 ρ1 I1 f1 z1 (hc.2 rfl)
theorem soundT : ∀ (e : Expr), ST prog w A cn sc L fa cd G h₀ EN Γ m aux W e
  | .Compare l ops rs p => fun ok h I q x => by
    rename_i whole ρ Q X s own fr QQ EE
    obtain ⟨ok, o4⟩ := and2 ok
    obtain ⟨ok, o3⟩ := and2 ok
    obtain ⟨o1, o2⟩ := and2 ok
    have o3 := not1 o3
    have o4 := beq_iff_eq.mp o4
    show wpAny _ _ (do testChain p (← eval l _) ops (markedEach ops rs (evalEach rs _))) _ _ _
    rw [markedEach_of_false _ _ _ o3]
    refine wpAny_bind (soundE l o1 (Q := fun a ρ1 => wpC Γ a ops rs ρ1 Q X) h I (fun a h1 tk1 own1 fr1 ρ1 ta I1 f1 z1 d1 q1 => ?_) x)
    exact soundTC rs o2 o4 q1 I1 d1 (fun c h3 tk3 own3 fr3 ρ3 I3 f3 z3 q3 => q _ h3 tk3 own3 fr3 ρ3 I3 (fun p hp => f3 p (f1 p hp)) (z1.trans z3) q3) x
  | .BoolOp op es p => fun ok h I q x => by
    rename_i whole ρ Q X s own fr QQ EE
    exact wpAny_isTrue_BoolOp (soundTs es ok h I q x)
  | .UnaryOp op e p => fun ok h I q x => by
    rename_i whole ρ Q X s own fr QQ EE
    cases op <;> first | exact h.elim | skip
    exact PyProof.Rows.isTrue_not (soundT e ok (Q := fun c ρ1 => Q (!c) ρ1) h I (fun c h1 tk1 own1 fr1 ρ1 I1 f1 z1 q1 => q (!c) h1 tk1 own1 fr1 ρ1 I1 f1 z1 q1) x)
  | .Constant .. => no_ST (by exact fun _ _ _ h => h)
  | .Name .. => no_ST (by exact fun _ _ _ h => h)
  | .BinOp .. => no_ST (by exact fun _ _ _ h => h)
  | .IfExp .. => no_ST (by exact fun _ _ _ h => h)
  | .Call .. => no_ST (by exact fun _ _ _ h => h)
  | .Subscript .. => no_ST (by exact fun _ _ _ h => h)
  | .Attribute .. => no_ST (by exact fun _ _ _ h => h)
  | .Tuple .. => no_ST (by exact fun _ _ _ h => h)
  | .List .. => no_ST (by exact fun _ _ _ h => h)
  | .NamedExpr .. => no_ST (by exact fun _ _ _ h => h)
  | .Lambda .. => no_ST (by exact fun _ _ _ h => h)
  | .Dict .. => no_ST (by exact fun _ _ _ h => h)
  | .Set .. => no_ST (by exact fun _ _ _ h => h)
  | .ListComp .. => no_ST (by exact fun _ _ _ h => h)
  | .SetComp .. => no_ST (by exact fun _ _ _ h => h)
  | .DictComp .. => no_ST (by exact fun _ _ _ h => h)
  | .GeneratorExp .. => no_ST (by exact fun _ _ _ h => h)
  | .Await .. => no_ST (by exact fun _ _ _ h => h)
  | .Yield .. => no_ST (by exact fun _ _ _ h => h)
  | .YieldFrom .. => no_ST (by exact fun _ _ _ h => h)
  | .FormattedValue .. => no_ST (by exact fun _ _ _ h => h)
  | .JoinedStr .. => no_ST (by exact fun _ _ _ h => h)
  | .Starred .. => no_ST (by exact fun _ _ _ h => h)
  | .Slice .. => no_ST (by exact fun _ _ _ h => h)
theorem soundTC : ∀ (rs : List Expr) {ops : List CmpOp} {a : Tr} {va : Value} {pos : Pos} {ρ : Loc} {Q : Bool → Loc → Prop} {X : XE} {s : Shared} {own fr : Led} {QQ : Bool → Shared → Prop} {EE : Value → Shared → Prop}, okEs sc rs = true → ops.length = rs.length → wpC Γ a ops rs ρ Q X → Inv G h₀ L s.heap m own fr aux W ρ →
    Den G (PF h₀ fr) a va → BPost G h₀ L m fr aux W ρ s Q QQ → XPost EN m aux W s X EE → wpAny (model prog w) A (testChain pos va ops (evalEach rs (envOf cn sc L fa cd))) QQ EE s
  | [] => fun ok hn h I d q x => by
    rename_i ops a va pos ρ Q X s own fr QQ EE
    cases ops <;> exact h.elim
  | [r] => fun ok hn h I d q x => by
    rename_i ops a va pos ρ Q X s own fr QQ EE
    match ops, hn, h with
    | [op], hn, h =>
      refine test_last (soundE r (and2 ok).1 (Q := fun b ρ1 => cmpW op a b fun c => Q c ρ1) h I (fun b h1 tk1 own1 fr1 ρ1 tb I1 f1 z1 d1 q1 => ?_) x)
      exact cmp_step H q1 I1 (d.mono (PF.mono f1)) d1 fun c hc => wpAny_truthy_bool (q c h1 tk1 own1 fr1 ρ1 I1 f1 z1 hc)
  | r :: r' :: rs => fun ok hn h I d q x => by
    rename_i ops a va pos ρ Q X s own fr QQ EE
    match ops, hn, h with
    | op :: op' :: ops, hn, h =>
      have ok' := and2 ok
      refine test_link (soundE r ok'.1 (Q := fun b ρ1 => cmpW op a b fun c => (c = true → wpC Γ b (op' :: ops) (r' :: rs) ρ1 Q X) ∧ (c = false → Q false ρ1)) h I (fun b h1 tk1 own1 fr1 ρ1 tb I1 f1 z1 d1 q1 => ?_) x)
      refine cmp_step H q1 I1 (d.mono (PF.mono f1)) d1 fun c hc => wpAny_truthy_bool ?_
      cases c with
      | true =>
        exact soundTC (r' :: rs) (ops := op' :: ops) ok'.2 (Nat.succ.inj hn) (hc.1 rfl) I1 d1 (fun c h3 tk3 own3 fr3 ρ3 I3 f3 z3 q3 => q c h3 tk3 own3 fr3 ρ3 I3 (fun p hp => f3 p (f1 p hp)) (z1.trans z3) q3) x
      | false => exact q false h1 tk1 own1 fr1 ρ1 I1 f1 z1 (hc.2 rfl)
theorem soundTs : ∀ (es : List Expr) {op : BoolOp} {ρ : Loc} {Q : Bool → Loc → Prop} {X : XE} {s : Shared} {own fr : Led} {QQ : Bool → Shared → Prop} {EE : Value → Shared → Prop}, okTests sc es = true → wpTs Γ op es ρ Q X → Inv G h₀ L s.heap m own fr aux W ρ →
    BPost G h₀ L m fr aux W ρ s Q QQ → XPost EN m aux W s X EE → wpAny (model prog w) A (allTrue op es (envOf cn sc L fa cd)) QQ EE s
  | [] => fun ok h I q x => by
    rename_i op ρ Q X s own fr QQ EE
    cases op with
    | And => exact wpAny_allTrue_And_nil (q true s.heap s.toks own fr ρ I (fun _ h => h) (Fz.refl ρ) h)
    | Or => exact wpAny_allTrue_Or_nil (q false s.heap s.toks own fr ρ I (fun _ h => h) (Fz.refl ρ) h)
  | e :: es => fun ok h I q x => by
    rename_i op ρ Q X s own fr QQ EE
    replace ok := and2 ok
    have step : ∀ (h1 : Heap) (tk1 : Nat) (own1 fr1 : Led) (ρ1 : Loc), Inv G h₀ L h1 m own1 fr1 aux W ρ1 → (∀ p ∈ fr, p ∈ fr1) → Fz ρ ρ1 → BPost G h₀ L m fr1 aux W ρ1 { s with heap := h1, toks := tk1 } Q QQ := fun h1 tk1 own1 fr1 ρ1 I1 f1 z1 c h3 tk3 own3 fr3 ρ3 I3 f3 z3 q3 => q c h3 tk3 own3 fr3 ρ3 I3 (fun p hp => f3 p (f1 p hp)) (z1.trans z3) q3
    cases op with
    | And =>
      refine wpAny_allTrue_And_cons (soundT e ok.1 (Q := fun c ρ1 => (c = true → wpTs Γ .And es ρ1 Q X) ∧ (c = false → Q c ρ1)) h I (fun c h1 tk1 own1 fr1 ρ1 I1 f1 z1 q1 => ?_) x)
      cases c with
      | true => exact soundTs es ok.2 (q1.1 rfl) I1 (step h1 tk1 own1 fr1 ρ1 I1 f1 z1) x
      | false => exact q false h1 tk1 own1 fr1 ρ1 I1 f1 z1 (q1.2 rfl)
    | Or =>
      refine wpAny_allTrue_Or_cons (soundT e ok.1 (Q := fun c ρ1 => (c = false → wpTs Γ .Or es ρ1 Q X) ∧ (c = true → Q c ρ1)) h I (fun c h1 tk1 own1 fr1 ρ1 I1 f1 z1 q1 => ?_) x)
      cases c with
      | true => exact q true h1 tk1 own1 fr1 ρ1 I1 f1 z1 (q1.2 rfl)
      | false => exact soundTs es ok.2 (q1.1 rfl) I1 (step h1 tk1 own1 fr1 ρ1 I1 f1 z1) x
end
end
end
end Mine
end
section
open PySem PySem.W PySem.Spec PySem.Calls PyProof.Rows
set_option Elab.async false
namespace Mine
set_option maxRecDepth 100000
set_option linter.unusedVariables false
set_option linter.unusedSectionVars false

/-- objects just made -/
structure Fresh (h₀ : Heap) (L : Addr) (h : Heap) (own fr : Led) (W : List Addr) (c : Led) : Prop where
  N : ∀ p ∈ c, h.get? p.1 = some p.2 ∧ p.1 ≠ L ∧ h₀.get? p.1 = none
  nd : (c.map (·.1)).Nodup
  off : ∀ p ∈ c, ∀ q ∈ own ++ fr, p.1 ≠ q.1
  offW : ∀ p ∈ c, p.1 ∉ W
theorem Fresh.nil {h₀ h : Heap} {L : Addr} {own fr : Led} {W : List Addr} : Fresh h₀ L h own fr W [] := ⟨fun _ hp => (nomatch hp), List.nodup_nil, fun _ hp => (nomatch hp), fun _ hp => (nomatch hp)⟩

noncomputable abbrev CPost (G : Wo) (h₀ : Heap) (L : Addr) (m : PySem.Str → Option Value) (own fr aux : Led) (W : List Addr) (ρ : Loc) (s : Shared) (Q : Tr → Prop) (QQ : Value → Shared → Prop) : Prop :=
  ∀ v h' tk' fr' t c, Inv G h₀ L h' m own fr' aux W ρ → (∀ p ∈ fr, p ∈ fr') → Cell G (PF h₀ fr') t v c → Fresh h₀ L h' own fr' W c → Q t → QQ v { s with heap := h', toks := tk' }

/-- what a frame gives besides: new things, things turned, raising -/
structure FG (prog : Program) (w : World) (A : Around) (cn : PySem.Str) (sc : Scope) (L fa : Addr) (cd : Value) (G : Wo) (h₀ : Heap) (EN : ENow) (Γ : Sig) (gv : PySem.Str → Option Value) : Prop where
  E : FH prog w A cn sc L fa cd G h₀ EN Γ.fn gv
  new : ∀ {f : PySem.Str} {sp : Spec}, Γ.new f = true → Γ.fn f = some sp → ∃ v, gv f = some v ∧ ∀ {s : Shared} {m : PySem.Str → Option Value} {own fr aux : Led} {W : List Addr} {ρ : Loc} {ts : List Tr} {vs : List Value} {Q : Tr → Prop} {X : Addr → PySem.Str → Prop} {QQ EE : Value → Shared → Prop},
    Inv G h₀ L s.heap m own fr aux W ρ → DenL G (PF h₀ fr) ts vs → sp ts Q X → CPost G h₀ L m own fr aux W ρ s Q QQ → (∀ e h' tk' C y, EN m own fr aux W ρ h' e C y → X C y → EE (.ref e) { s with heap := h', toks := tk' }) →
    wpAny (model prog w) A (call v vs) QQ EE s
  mu : ∀ {f : PySem.Str} {sp : MSpec}, Γ.mu f = some sp → ∃ v, gv f = some v ∧ ∀ {s : Shared} {m : PySem.Str → Option Value} {own fr aux : Led} {W : List Addr} {ρ : Loc} {x : PySem.Str} {t : Tr} {vx : Value} {ts : List Tr} {vs : List Value} {Q : Tr → Prop} {QQ EE : Value → Shared → Prop},
    Inv G h₀ L s.heap m own fr aux W ρ → look x ρ = some (.mu t) → m x = some vx → DenL G (PF h₀ fr) ts vs → sp t ts Q →
    (∀ h' tk' own' fr' t', Inv G h₀ L h' m own' fr' aux W (upd x (.mu t') ρ) → (∀ p ∈ fr, p ∈ fr') → Q t' → QQ .none { s with heap := h', toks := tk' }) → wpAny (model prog w) A (call v (vx :: vs)) QQ EE s
  raise : ∀ {f y : PySem.Str} {C : Addr} {k : Nat} {p1 p2 p3 pos : Pos} {s : Shared} {m : PySem.Str → Option Value} {own fr aux : Led} {W : List Addr} {ρ : Loc} {QQ : Flow → Shared → Prop} {EE : Value → Shared → Prop}, Γ.ex f = some C → gloN sc f = true → Inv G h₀ L s.heap m own fr aux W ρ →
    (∀ e h' tk', EN m own fr aux W ρ h' e C y → EE (.ref e) { s with heap := h', toks := tk' }) → wpAny (model prog w) A (exec (.Raise (some (.Call (.Name f p1) [.Constant (.str y) k p2] [] p3)) none pos) (envOf cn sc L fa cd)) QQ EE s
  seta : ∀ {s : Shared} {m : PySem.Str → Option Value} {own fr aux : Led} {W : List Addr} {ρ : Loc} {x a : PySem.Str} {fs : List Tr} {t : Tr} {vx v : Value} {QQ : Unit → Shared → Prop} {EE : Value → Shared → Prop}, Inv G h₀ L s.heap m own fr aux W ρ → look x ρ = some (.mu (.ip fs)) → m x = some vx → Den G (PF h₀ fr) t v → ipIx a ≤ fs.length → ipIx a < 11 →
    (∀ h' tk' own', Inv G h₀ L h' m own' fr aux W (upd x (.mu (.ip (setIp fs (ipIx a) t))) ρ) → QQ () { s with heap := h', toks := tk' }) → wpAny (model prog w) A (setAttr vx a v) QQ EE s
  rng : gv "range" = some (.type "range")

section
variable {sc : Scope}
theorem swaps_ok {e : Expr} {t : Option Expr} {n : Nat} {env : Env} (ok : okE sc e = true) : swapsWith e t n env = pure false := by
  cases e <;> first | rfl | exact absurd (show false = true from ok) Bool.false_ne_true
theorem folded_ok {e : Expr} {env : Env} (ok : okE sc e = true) (x : Value) : foldedSetIterable e env x = pure x := by
  cases e <;> first | rfl | exact absurd (show false = true from ok) Bool.false_ne_true
noncomputable def asgN (sc : Scope) (kp : List PySem.Str) (x : PySem.Str) : Bool := locN sc x && !kp.contains x
noncomputable def okNm (sc : Scope) (kp : List PySem.Str) (e : Expr) : Bool := isName e && asgN sc kp (nameOf e)
noncomputable def notTup : Expr → Bool
  | .Tuple .. => false
  | _ => true
theorem each_ok {kp : List PySem.Str} {env : Env} : ∀ {es : List Expr}, es.all (okNm sc kp) = true → assignEach es env = es.map fun e => (false, assign e env)
  | [], _ => rfl
  | e :: es, h => by
    replace h := and2 h
    rw [List.map_cons, ← each_ok h.2]
    cases e <;> first | rfl | exact absurd (show false = true from (and2 h.1).1) Bool.false_ne_true
end

noncomputable abbrev SPost (G : Wo) (h₀ : Heap) (L : Addr) (fr aux : Led) (W : List Addr) (s : Shared) (Q : Fl → Loc → Prop) (R : Facts → (PySem.Str → Option Value) → Loc → Fl → Flow → Prop) (KM : (PySem.Str → Option Value) → Prop) (QQ : Flow → Shared → Prop) : Prop :=
  ∀ fl f h' tk' m' own' fr' ρ', KM m' → Inv G h₀ L h' m' own' fr' aux W ρ' → (∀ p ∈ fr, p ∈ fr') → R (PF h₀ fr') m' ρ' fl f → Q fl ρ' → QQ f { s with heap := h', toks := tk' }
inductive FlR (G : Wo) (P : Facts) (m : PySem.Str → Option Value) (ρ : Loc) : Fl → Flow → Prop
  | next : FlR G P m ρ .next .next
  | cont : FlR G P m ρ .cont .cont
  | ret {t : Tr} {v : Value} : Den G P t v → FlR G P m ρ (.ret t) (.ret v)
  | retm {x : PySem.Str} {t : Tr} {v : Value} : look x ρ = some (.mu t) → m x = some v → FlR G P m ρ (.retm x t) (.ret v)
noncomputable abbrev NPost (G : Wo) (h₀ : Heap) (L : Addr) (m : PySem.Str → Option Value) (fr aux : Led) (W : List Addr) (s : Shared) (Q : Slot → Loc → Prop) (QQ : Value → Shared → Prop) : Prop :=
  ∀ v h' tk' own' fr' ρ' sl c, Inv G h₀ L h' m own' fr' aux W ρ' → (∀ p ∈ fr, p ∈ fr') → SlotR G (PF h₀ fr') sl v c → Fresh h₀ L h' own' fr' W c → Q sl ρ' → QQ v { s with heap := h', toks := tk' }
noncomputable abbrev SXPost (EN : ENow) (aux : Led) (W : List Addr) (s : Shared) (X : XE) (EE : Value → Shared → Prop) : Prop :=
  ∀ m' e h' tk' own' fr' ρ' C y, EN m' own' fr' aux W ρ' h' e C y → X C y ρ' → EE (.ref e) { s with heap := h', toks := tk' }

section
variable {prog : Program} {w : World} {A : Around} {cn : PySem.Str} {sc : Scope} {fa : Addr} {cd : Value} {G : Wo} {h₀ : Heap} {L : Addr} {EN : ENow} {Γ : Sig} {gv : PySem.Str → Option Value}

theorem fresh_one {m : PySem.Str → Option Value} {own fr aux : Led} {W : List Addr} {ρ : Loc} {s : Shared} (I : Inv G h₀ L s.heap m own fr aux W ρ) {h' : Heap} {l : Addr} {o : Obj} (F' : Fr h₀ L h' m) (N' : News h₀ L h' ((l, o) :: (own ++ fr ++ aux))) (hl : s.heap.objs.size ≤ l) :
    Inv G h₀ L h' m own fr aux W ρ ∧ Fresh h₀ L h' own fr W [(l, o)] := by
  refine ⟨I.keep F' fun p hp => N' p (.tail _ hp), fun p hp => ?_, by simp, fun p hp q hq e => ?_, fun p hp hW => ?_⟩
  · rw [List.mem_singleton.mp hp]; exact N' _ (.head _)
  · rw [List.mem_singleton.mp hp] at e
    exact absurd (I.look_lt q (List.mem_append_left _ hq)) (Nat.not_lt.mpr (e ▸ hl))
  · rw [List.mem_singleton.mp hp] at hW
    obtain ⟨o', ho⟩ := I.live _ hW
    exact absurd (I.look_lt (l, o') (List.mem_append_right _ ho)) (Nat.not_lt.mpr hl)

theorem st_slot (hk : sc.kind = .function) {x : PySem.Str} {sl : Slot} {v : Value} {c : Led} {m : PySem.Str → Option Value} {own fr aux : Led} {W : List Addr} {ρ : Loc} {s : Shared} {QQ : Unit → Shared → Prop} {EE : Value → Shared → Prop} (ok : locN sc x = true) (I : Inv G h₀ L s.heap m own fr aux W ρ) (hs : SlotR G (PF h₀ fr) sl v c) (hc : Fresh h₀ L s.heap own fr W c)
    (k : ∀ h' tk' own', Inv G h₀ L h' (fun y => if y = x then some v else m y) own' fr aux W (upd x sl ρ) → QQ () { s with heap := h', toks := tk' }) : wpAny (model prog w) A (storeName (envOf cn sc L fa cd) x v) QQ EE s := by
  have N2 : News h₀ L s.heap (c ++ (own ++ fr ++ aux)) := fun p hp => (List.mem_append.mp hp).elim (hc.N p) (I.N p)
  refine stN I.F N2 (fun h' F' N' => ?_) hk (locN_of ok).1
  obtain ⟨own', I'⟩ := I.bind F' (fun p hp => N' p (List.mem_append_right _ hp)) (fun p hp => N' p (List.mem_append_left _ hp)) hs hc.nd hc.off hc.offW
  exact k h' _ own' I'
theorem st_val (hk : sc.kind = .function) {x : PySem.Str} {t : Tr} {v : Value} {m : PySem.Str → Option Value} {own fr aux : Led} {W : List Addr} {ρ : Loc} {s : Shared} {QQ : Unit → Shared → Prop} {EE : Value → Shared → Prop} (ok : locN sc x = true) (I : Inv G h₀ L s.heap m own fr aux W ρ) (hs : Den G (PF h₀ fr) t v)
    (k : ∀ h' tk' own', Inv G h₀ L h' (fun y => if y = x then some v else m y) own' fr aux W (upd x (.val t) ρ) → QQ () { s with heap := h', toks := tk' }) : wpAny (model prog w) A (storeName (envOf cn sc L fa cd) x v) QQ EE s :=
  st_slot hk ok I (.val hs) .nil k

/-- names that stay bound as they are -/
noncomputable def Same (kp : List PySem.Str) (m m' : PySem.Str → Option Value) : Prop := ∀ y ∈ kp, m' y = m y
theorem Same.refl {kp : List PySem.Str} (m : PySem.Str → Option Value) : Same kp m m := fun _ _ => rfl
theorem Same.trans {kp : List PySem.Str} {m m' m'' : PySem.Str → Option Value} (x : Same kp m m') (y : Same kp m' m'') : Same kp m m'' := fun z hz => (y z hz).trans (x z hz)
theorem Same.bind {sc : Scope} {kp : List PySem.Str} {m : PySem.Str → Option Value} {x : PySem.Str} {v : Option Value} (h : asgN sc kp x = true) : Same kp m (fun y => if y = x then v else m y) := fun y hy => by
  have hx : ¬ kp.contains x = true := by
    rw [not1 (and2 h).2]; exact Bool.false_ne_true
  have hn : ¬ y = x := fun e => hx (List.contains_iff_mem.mpr (by rw [← e]; exact hy))
  show (if y = x then v else m y) = m y
  rw [if_neg hn]
theorem asg_loc {sc : Scope} {kp : List PySem.Str} {x : PySem.Str} (h : asgN sc kp x = true) : locN sc x = true := (and2 h).1

/-- what stands behind a binding -/
noncomputable abbrev TPost (G : Wo) (h₀ : Heap) (L : Addr) (fr aux : Led) (W : List Addr) (s : Shared) (ρ2 : Loc) (KM : (PySem.Str → Option Value) → Prop) (QQ : Unit → Shared → Prop) : Prop :=
  ∀ h' tk' m' own', KM m' → Inv G h₀ L h' m' own' fr aux W ρ2 → QQ () { s with heap := h', toks := tk' }

theorem unpack_sound {kp : List PySem.Str} (hk : sc.kind = .function) {EE : Value → Shared → Prop} {fr aux : Led} {W : List Addr} {QQ : Unit → Shared → Prop} : ∀ {es : List Expr} {ts : List Tr} {vs : List Value} {ρ ρ2 : Loc} {m : PySem.Str → Option Value} {own : Led} {s : Shared}, es.all (okNm sc kp) = true → unpackL es ts ρ = some ρ2 → DenL G (PF h₀ fr) ts vs →
    Inv G h₀ L s.heap m own fr aux W ρ → TPost G h₀ L fr aux W s ρ2 (Same kp m) QQ → wpAny (model prog w) A (assignInOrder (es.map fun e => assign e (envOf cn sc L fa cd)) vs) QQ EE s
  | [], [], vs, ρ, ρ2, m, own, s, _, e, _, I, q => by
    cases (show some ρ = some ρ2 from e)
    exact assignInOrder_nil (q s.heap s.toks m own (Same.refl m) I)
  | [], _ :: _, _, _, _, _, _, _, _, e, _, _, _ => nomatch (show none = some _ from e)
  | _ :: _, [], _, _, _, _, _, _, _, e, _, _, _ => nomatch (show none = some _ from e)
  | x :: es, t :: ts, vs, ρ, ρ2, m, own, s, ok, e, d, I, q => by
    replace ok := and2 ok
    obtain ⟨v, r, rfl, dv, dl⟩ := d
    cases x <;> first | exact absurd (show false = true from (and2 ok.1).1) Bool.false_ne_true | skip
    rename_i y p
    have oy : asgN sc kp y = true := (and2 ok.1).2
    refine assignInOrder_cons (wpAny_assign_Name (st_val hk (asg_loc oy) I dv fun h1 tk1 own1 I1 => ?_))
    exact unpack_sound hk (s := { s with heap := h1, toks := tk1 }) ok.2 e dl I1 fun h' tk' m' own' km I' => q h' tk' m' own' ((Same.bind oy).trans km) I'

theorem unpackL_len : ∀ {es : List Expr} {ts : List Tr} {ρ ρ2 : Loc}, unpackL es ts ρ = some ρ2 → es.length = ts.length
  | [], [], _, _, _ => rfl
  | [], _ :: _, _, _, e => nomatch (show none = some _ from e)
  | _ :: _, [], _, _, e => nomatch (show none = some _ from e)
  | _ :: es, _ :: ts, _, _, e => by
    exact congrArg (· + 1) (unpackL_len e)

noncomputable def okTgt (sc : Scope) (kp : List PySem.Str) : Expr → Bool
  | .Name x _ => asgN sc kp x
  | .Tuple es _ _ => es.all (okNm sc kp)
  | _ => false

theorem each_none {env : Env} {es : List Expr} : (es.map fun e => (false, assign e env)).findIdx? (·.1) = none := by
  rw [List.findIdx?_eq_none_iff]
  intro x hx
  obtain ⟨e, _, rfl⟩ := List.mem_map.mp hx
  rfl

theorem bind_sound {kp : List PySem.Str} (hk : sc.kind = .function) (hh : A.handled = none) {EE : Value → Shared → Prop} {fr aux : Led} {W : List Addr} {QQ : Unit → Shared → Prop} {tg : Expr} {t : Tr} {v : Value} {ρ ρ2 : Loc} {m : PySem.Str → Option Value} {own : Led} {s : Shared} (ok : okTgt sc kp tg = true) (e : bindT tg t ρ = some ρ2) (d : Den G (PF h₀ fr) t v)
    (I : Inv G h₀ L s.heap m own fr aux W ρ) (q : TPost G h₀ L fr aux W s ρ2 (Same kp m) QQ) : wpAny (model prog w) A (assign tg (envOf cn sc L fa cd) v) QQ EE s := by
  cases tg <;> first | exact absurd (show false = true from ok) Bool.false_ne_true | skip
  · rename_i x p
    cases (show some (upd x (.val t) ρ) = some ρ2 from e)
    exact wpAny_assign_Name (st_val hk (asg_loc ok) I d fun h' tk' own' I' => q h' tk' _ own' (Same.bind ok) I')
  · rename_i es k p
    have ok' : es.all (okNm sc kp) = true := ok
    cases t <;> first | (cases (show none = some ρ2 from e); done) | skip
    · rename_i ts
      obtain ⟨a, o, vs, rfl, pa, c, n, dl⟩ := d
      have hn : (assignEach es (envOf cn sc L fa cd)).length = vs.toArray.size := by
        rw [each_ok ok', List.length_map, unpackL_len e, List.size_toArray, dl.length]
      refine kun_list I.F I.N (isList_of I pa c n) hh hn (by rw [each_ok ok']; exact each_none) fun h' F' N' => ?_
      rw [each_ok ok', List.map_map]
      exact unpack_sound hk (s := { s with heap := h' }) ok' e dl (I.keep F' N') fun h2 tk2 m2 own2 km I2 => q h2 tk2 m2 own2 km I2
    · rename_i ts
      obtain ⟨a, o, vs, rfl, pa, c, n, dl⟩ := d
      have hn : (assignEach es (envOf cn sc L fa cd)).length = vs.toArray.size := by
        rw [each_ok ok', List.length_map, unpackL_len e, List.size_toArray, dl.length]
      refine assign_Tuple_tuple hh (isTup_of I pa c n) hn (by rw [each_ok ok']; exact each_none) fun h' he => ?_
      rw [each_ok ok', List.map_map]
      exact unpack_sound hk (s := { s with heap := h' }) ok' e dl (I.keep (I.F.extBut he (Nat.le_refl _)) (I.N.extBut he (Nat.le_refl _))) fun h2 tk2 m2 own2 km I2 => q h2 tk2 m2 own2 km I2

theorem new_sound (H : FG prog w A cn sc L fa cd G h₀ EN Γ gv) {m : PySem.Str → Option Value} {aux : Led} {W : List Addr} : ∀ (e : Expr) {ρ : Loc} {Q : Slot → Loc → Prop} {X : XE} {s : Shared} {own fr : Led} {QQ EE : Value → Shared → Prop}, okE sc e = true → newW Γ e ρ Q X → Inv G h₀ L s.heap m own fr aux W ρ →
    NPost G h₀ L m fr aux W s Q QQ → XPost EN m aux W s X EE → wpAny (model prog w) A (eval e (envOf cn sc L fa cd)) QQ EE s := by
  intro e ρ Q X s own fr QQ EE ok h I q x
  have plain : wpE Γ.fn e ρ (fun t ρ1 => Q (.val t) ρ1) X → wpAny (model prog w) A (eval e (envOf cn sc L fa cd)) QQ EE s := fun hp =>
    soundE H.E e ok hp I (fun v h' tk' own' fr' ρ' t I' f' _ d' q' => q v h' tk' own' fr' ρ' (.val t) [] I' f' (.val d') .nil q') x
  cases e <;> first | exact plain h | skip
  · rename_i l op r p
    replace ok := and2 ok
    refine wpAny_BinOp (soundE H.E l ok.1 (Q := fun a ρ1 => wpE Γ.fn r ρ1 (fun b ρ2 => match (generalizing := false) op, a, b with
      | .Add, .list xs, .list ys => xs.length + ys.length ≤ big ∧ Q (.mu (.list (xs ++ ys))) ρ2
      | _, _, _ => binW op a b fun t => Q (.val t) ρ2) X) h I (fun a h1 tk1 own1 fr1 ρ1 ta I1 f1 z1 d1 q1 => ?_) x)
    refine soundE H.E r ok.2 q1 I1 (fun b h2 tk2 own2 fr2 ρ2 tb I2 f2 z2 d2 q2 => ?_) x
    have d1' := d1.mono (PF.mono f2)
    have old : binW op ta tb (fun t => Q (.val t) ρ2) → wpAny (model prog w) A (binaryOp op a b) QQ EE { s with heap := h2, toks := tk2 } := fun hb =>
      bin_sound hb I2 d1' d2 fun v h3 tk3 fr3 t I3 f3 d3 q3 => q v h3 tk3 own2 fr3 ρ2 (.val t) [] I3 (fun p hp => f3 p (f2 p (f1 p hp))) (.val d3) .nil q3
    cases op <;> first | exact old q2 | skip
    cases ta <;> first | exact old q2 | skip
    cases tb <;> first | exact old q2 | skip
    refine add_listS I2 d1' d2 q2.1 fun h3 l vs F3 N3 hl d3 => ?_
    obtain ⟨I3, fr3⟩ := fresh_one I2 F3 N3 hl
    exact q _ h3 tk2 own2 fr2 ρ2 (.mu _) _ I3 (fun p hp => f2 p (f1 p hp)) (.mu (.list d3)) fr3 q2.2
  · rename_i f args kw p
    cases kw with
    | cons _ _ => exact absurd (show false = true from (and2 ok).2) Bool.false_ne_true
    | nil =>
      replace h : (match (generalizing := false) Γ.new (nameOf f) with
      | true => (match (generalizing := false) Γ.fn (nameOf f) with
          | some sp => wpL Γ.fn args ρ (fun ts ρ1 => sp ts (fun t => Q (.mu t) ρ1) fun c y => X c y ρ1) X
          | none => False)
      | false => wpE Γ.fn (.Call f args [] p) ρ (fun t ρ1 => Q (.val t) ρ1) X) := h
      cases hn : Γ.new (nameOf f) with
      | false => rw [hn] at h; exact plain h
      | true =>
        rw [hn] at h
        obtain ⟨o1, o2⟩ := and2 (and2 (and2 ok).1).1
        have o3 := (and2 (and2 ok).1).2
        clear ok plain
        cases hs : Γ.fn (nameOf f) with
        | none => rw [hs] at h; exact h.elim
        | some sp =>
          rw [hs] at h
          obtain ⟨v, hv, hc⟩ := H.new hn hs
          refine callee_sound H.E ⟨o1, o2⟩ o3 hv I ?_
          have fin : LPost G h₀ L m fr aux W ρ s args.length (fun ts ρ1 => sp ts (fun t => Q (.mu t) ρ1) fun c y => X c y ρ1) (fun vs s₁ => (∀ b o, h₀.get? b = some o → s₁.heap.get? b = some o) ∧ wpAny (model prog w) A (call v vs []) QQ EE s₁) :=
            fun vs h1 tk1 own1 fr1 ρ1 ts I1 f1 z1 d1 _ q1 => ⟨I1.F.keep, hc I1 d1 q1 (fun v h3 tk3 fr3 t c I3 f3 c3 fs3 q3 => q v h3 tk3 own1 fr3 ρ1 (.mu t) c I3 (fun p hp => f3 p (f1 p hp)) (.mu c3) fs3 q3) fun e h' tk' C y he hx => x e h' tk' own1 fr1 ρ1 C y he hx⟩
          exact args_all o3 (fun e => by subst e; exact fin [] s.heap s.toks own fr ρ [] I (fun _ h => h) (Fz.refl ρ) rfl rfl h) (soundL H.E args o3 h I fin x)
  · rename_i es p
    replace ok := and2 ok
    refine List_ (soundL H.E es ok.1 (Q := fun ts ρ1 => Q (.mu (.list ts)) ρ1) h I (fun vs h1 tk1 own1 fr1 ρ1 ts I1 f1 z1 d1 n1 q1 => ?_) x)
    refine newList_N I1.F I1.N (fun h' F' N' => ?_) (small_len (d1.length.trans n1) ok.2)
    obtain ⟨I3, fr3⟩ := fresh_one (s := { s with heap := h1, toks := tk1 }) I1 F' N' (Nat.le_refl _)
    exact q _ h' _ own1 fr1 ρ1 (.mu _) _ I3 f1 (.mu (.list d1)) fr3 q1
end
end Mine
end
section
open PySem PySem.W PySem.Spec PySem.Calls PyProof.Rows
set_option Elab.async false
namespace Mine
set_option maxRecDepth 100000
set_option linter.unusedVariables false
set_option linter.unusedSectionVars false

section
variable (sc : Scope) (kp : List PySem.Str)
noncomputable def okLoc (e : Expr) : Bool := isName e && locN sc (nameOf e)
noncomputable def okTg1 (t e : Expr) : Bool :=
  match t with
  | .Name x _ => asgN sc kp x
  | .Tuple es _ _ => es.all (okNm sc kp) && notTup e
  | .Subscript v i _ => okLoc sc v && okE sc i
  | .Attribute v _ _ => okLoc sc v
  | _ => false
noncomputable def okTg (ts : List Expr) (e : Expr) : Bool :=
  match ts with
  | [t] => okTg1 sc kp t e
  | _ => false
noncomputable def okX : Expr → Bool
  | .Call f as [] p => (match f with
      | .Attribute o _ ap => (match as with
          | [v] => okLoc sc o && okE sc v && (ap.endLine == p.line)
          | _ => false)
      | .Name f _ => (match as with
          | x :: args => gloN sc f && okLoc sc x && okEs sc args
          | [] => false)
      | _ => false)
  | _ => false
noncomputable def okR (e c : Option Expr) : Bool :=
  match raised e c with
  | some p => gloN sc p.1
  | none => false
mutual
noncomputable def okS : Stmt → Bool
  | .Assign ts e _ => okE sc e && okTg sc kp ts e
  | .AugAssign t _ e _ => isName t && asgN sc kp (nameOf t) && okE sc e
  | .Expr e _ => okX sc e
  | .If t a b _ => okTest sc t && okB a && okB b
  | .While t b [] _ => okTest sc t && okB b
  | .For tg it b [] _ => okTgt sc kp tg && okE sc it && okB b
  | .Return none _ => true
  | .Return (some e) _ => okE sc e
  | .Raise e c _ => okR sc e c
  | .Continue _ => true
  | _ => false
noncomputable def okB : List Stmt → Bool
  | [] => true
  | s :: r => okS s && okB r
end
end

/-- the frame of an assignment's end -/
noncomputable abbrev APost (G : Wo) (h₀ : Heap) (L : Addr) (fr aux : Led) (W : List Addr) (s : Shared) (Q : Loc → Prop) (KM : (PySem.Str → Option Value) → Prop) (QQ : Flow → Shared → Prop) : Prop :=
  ∀ h' tk' m' own' fr' ρ', KM m' → Inv G h₀ L h' m' own' fr' aux W ρ' → (∀ p ∈ fr, p ∈ fr') → Q ρ' → QQ .next { s with heap := h', toks := tk' }

section
variable {prog : Program} {w : World} {A : Around} {cn : PySem.Str} {sc : Scope} {fa : Addr} {cd : Value} {G : Wo} {h₀ : Heap} {L : Addr} {EN : ENow} {Γ : Sig} {gv : PySem.Str → Option Value} {m : PySem.Str → Option Value} {own fr aux : Led} {W : List Addr} {ρ : Loc} {X : XE} {s : Shared} {EE : Value → Shared → Prop}

theorem listSet {vs : List Value} {n k : Nat} {v : Value} : Obj.mapSeq (·.setIfInBounds k v) (listOf vs.toArray n) = listOf (vs.set k v).toArray n := by
  simp [Obj.mapSeq]

theorem assign_sound {kp : List PySem.Str} (H : FG prog w A cn sc L fa cd G h₀ EN Γ gv) {ts : List Expr} {e : Expr} {pos : Pos} {Q : Loc → Prop} {QQ : Flow → Shared → Prop} (ok : okE sc e = true) (okt : okTg sc kp ts e = true) (h : assignW Γ ts e ρ Q X) (I : Inv G h₀ L s.heap m own fr aux W ρ)
    (q : APost G h₀ L fr aux W s Q (Same kp m) QQ) (x : XPost EN m aux W s X EE) : wpAny (model prog w) A (exec (.Assign ts e pos) (envOf cn sc L fa cd)) QQ EE s := by
  rcases ts with _ | ⟨tg, _ | ⟨_, _⟩⟩
  · exact h.elim
  rotate_left
  · exact h.elim
  replace h : asgW Γ tg e ρ Q X := h
  replace okt : okTg1 sc kp tg e = true := okt
  cases tg <;> first | exact h.elim | skip
  case Name y p =>
    have okt : asgN sc kp y = true := okt
    refine wpAny_Assign_Name (new_sound H e ok (Q := fun sl ρ1 => Q (upd y sl ρ1)) h I (fun v h1 tk1 own1 fr1 ρ1 sl c I1 f1 hs hc q1 => ?_) x) (swaps_ok ok)
    exact st_slot (s := { s with heap := h1, toks := tk1 }) H.E.kind (asg_loc okt) I1 hs hc fun h2 tk2 own2 I2 => q h2 tk2 _ own2 fr1 _ (Same.bind okt) I2 f1 q1
  case Tuple es k p =>
    replace okt := and2 okt
    have hw : swappedStores [.Tuple es k p] e (envOf cn sc L fa cd) = pure none := by
      cases e <;> first | rfl | exact absurd (show false = true from okt.2) Bool.false_ne_true
    refine Assign_Tuple (soundE H.E e ok h I (fun v h1 tk1 own1 fr1 ρ1 t I1 f1 z1 d1 q1 => ?_) x) (show swapsWith e (some (.Tuple es k p)) pos.line (envOf cn sc L fa cd) = pure false from swaps_ok ok) hw
    have fin : ∀ ρ2, bindT (.Tuple es k p) t ρ1 = some ρ2 → Q ρ2 → wpAny (model prog w) A (assign (.Tuple es k p) (envOf cn sc L fa cd) v) (fun _ => QQ .next) EE { s with heap := h1, toks := tk1 } := fun ρ2 e2 hq =>
      bind_sound (s := { s with heap := h1, toks := tk1 }) H.E.kind H.E.hh (show okTgt sc kp (.Tuple es k p) = true from okt.1) e2 d1 I1 fun h2 tk2 m2 own2 km I2 => q h2 tk2 m2 own2 fr1 ρ2 km I2 f1 hq
    cases t <;> first | exact q1.elim | skip
    · obtain ⟨ρ2, e2, hq⟩ := q1
      exact fin ρ2 e2 hq
    · obtain ⟨ρ2, e2, hq⟩ := q1
      exact fin ρ2 e2 hq
  case Subscript v i p2 =>
    replace h := nameW_of h
    obtain ⟨y, p, rfl, h⟩ := h
    replace okt := and2 okt
    replace okt := And.intro (and2 okt.1).2 okt.2
    refine wpAny_Assign_Subscript (soundE H.E e ok h I (fun v h1 tk1 own1 fr1 ρ1 t I1 f1 z1 d1 q1 => ?_) x) (swaps_ok ok)
    cases hl : look y ρ1 with
    | none => rw [hl] at q1; exact q1.elim
    | some sl =>
      rw [hl] at q1
      cases sl with
      | val t => exact q1.elim
      | mu t' =>
        cases t' <;> first | exact q1.elim | skip
        rename_i xs
        refine read_name (s := { s with heap := h1, toks := tk1 }) H.E okt.1 I1 (.inr hl) fun vy hvy _ => ?_
        refine soundE H.E i okt.2 q1 I1 (fun iv h2 tk2 own2 fr2 ρ2 k I2 f2 z2 d2 q2 => ?_) x
        obtain ⟨hl2, q2⟩ := q2
        cases k <;> first | exact q2.elim | skip
        rename_i kk
        obtain ⟨u, rfl⟩ := d2
        obtain ⟨k0, k1, k2, hq⟩ := q2
        obtain ⟨vy', c, hv', hc, hcm, hch⟩ := I2.change hl2
        rw [hvy] at hv'
        cases hv'
        cases hc with
        | @list a vs n _ dl =>
          have hb : big = 16777216 := rfl
          have ho := (I2.N (a, listOf vs.toArray n) (by simp [*])).1
          refine ki_setAt (s := { s with heap := h2, toks := tk2 }) ho k0 (by omega) (by rw [List.size_toArray, dl.length]; exact k1) ?_
          obtain ⟨own3, I3⟩ := hch (h' := h2.update a (Obj.mapSeq (·.setIfInBounds kk.toNat v))) (c' := [(a, listOf (vs.set kk.toNat v).toArray n)]) rfl (fun b o hbn e => by
            rw [Heap.get?_update_other _ _ (fun z => hbn (by simp [z]))]; exact e) (fun p hp => by
              rw [List.mem_singleton.mp hp]
              rw [Heap.get?_update_self _ ho (by rw [listSet]; rfl), listSet]) (.list (dl.set (d1.mono (PF.mono f2)) _))
          exact q _ tk2 m own3 fr2 _ (Same.refl m) I3 (fun p hp => f2 p (f1 p hp)) hq
  case Attribute v a p2 =>
    replace h := nameW_of h
    obtain ⟨y, p, rfl, h⟩ := h
    have okt : locN sc y = true := (and2 (a := isName (.Name y p)) (b := locN sc y) okt).2
    refine plainObj_wpAny_Assign_Attribute (soundE H.E e ok h I (fun v h1 tk1 own1 fr1 ρ1 t I1 f1 z1 d1 q1 => ?_) x) (swaps_ok ok)
    cases hl : look y ρ1 with
    | none => rw [hl] at q1; exact q1.elim
    | some sl =>
      rw [hl] at q1
      cases sl with
      | val t => exact q1.elim
      | mu t' =>
        cases t' <;> first | exact q1.elim | skip
        refine read_name (s := { s with heap := h1, toks := tk1 }) H.E okt I1 (.inr hl) fun vy hvy _ => ?_
        exact H.seta (s := { s with heap := h1, toks := tk1 }) I1 hl hvy d1 q1.1 q1.2.1 fun h2 tk2 own2 I2 => q h2 tk2 m own2 fr1 _ (Same.refl m) I2 f1 q1.2.2

theorem ok_call {f y : PySem.Str} {p p1 p2 : Pos} {args : List Expr} (ok : okX sc (.Call (.Name f p) (.Name y p1 :: args) [] p2) = true) : okE sc (.Call (.Name f p) (.Name y p1 :: args) [] p2) = true := by
  replace ok := and2 ok
  have o1 := and2 ok.1
  exact Bool.and_eq_true_iff.mpr ⟨Bool.and_eq_true_iff.mpr ⟨o1.1, Bool.and_eq_true_iff.mpr ⟨(and2 o1.2).2, ok.2⟩⟩, rfl⟩
theorem expr_sound {kp : List PySem.Str} (H : FG prog w A cn sc L fa cd G h₀ EN Γ gv) {e : Expr} {pos : Pos} {Q : Loc → Prop} {QQ : Flow → Shared → Prop} (ok : okX sc e = true) (h : exprW Γ e ρ Q X) (I : Inv G h₀ L s.heap m own fr aux W ρ)
    (q : APost G h₀ L fr aux W s Q (Same kp m) QQ) (x : XPost EN m aux W s X EE) : wpAny (model prog w) A (exec (.Expr e pos) (envOf cn sc L fa cd)) QQ EE s := by
  have hi : interactive (envOf cn sc L fa cd) = false := by
    show ((sc.kind == .module) && _) = false
    rw [H.E.kind]; rfl
  cases e <;> first | exact h.elim | skip
  rename_i f as ks p2
  cases ks with
  | cons _ _ => exact h.elim
  | nil =>
  cases f <;> first | exact h.elim | skip
  · rename_i o a ap
    rcases as with _ | ⟨v, _ | ⟨_, _⟩⟩
    · exact h.elim
    rotate_left
    · exact h.elim
    replace h := nameW_of (K := fun x => a = "append" ∧ appW Γ x v ρ Q X) h
    obtain ⟨y, p, rfl, rfl, h⟩ := h
    replace ok := and2 ok
    have ok2 := ok.2
    replace ok := And.intro (and2 (and2 ok.1).1).2 (and2 ok.1).2
    unfold appW at h
    cases hl : look y ρ with
    | none => rw [hl] at h; exact h.elim
    | some sl =>
      rw [hl] at h
      cases sl with
      | val t => exact h.elim
      | mu t' =>
        cases t' <;> first | exact h.elim | skip
        rename_i xs
        refine wpAny_Expr (wpAny_Call_append rfl ?_ ok2 ?_ ?_) hi rfl
        · rw [star_ok ok.2]; rfl
        · rw [star_ok ok.2]; rfl
        · refine read_name H.E ok.1 I (.inr hl) fun vy hvy _ => ?_
          obtain ⟨v1, c1, hv1, hc1, hcm, hch1⟩ := I.change hl
          rw [hvy] at hv1
          cases hv1
          cases hc1 with
          | @list a vs n _ dl =>
            refine ⟨a, vs.toArray, rfl, ⟨_, n, (I.N (a, listOf vs.toArray n) (by simp [*])).1, rfl, rfl, rfl⟩, ?_⟩
            refine soundE H.E v ok.2 h I (fun vv h2 tk2 own2 fr2 ρ2 t I2 f2 z2 d2 q2 => ?_) x
            obtain ⟨hl2, hz, hq⟩ := q2
            obtain ⟨v2, c2, hv2, hc2, hcm2, hch⟩ := I2.change hl2
            rw [hvy] at hv2
            cases hv2
            cases hc2 with
            | @list _ vs2 n2 _ dl2 =>
              have ho := (I2.N (a, listOf vs2.toArray n2) (by simp [*])).1
              refine append_at (s := { s with heap := h2, toks := tk2 }) ho (fun h3 hs3 ho3 => ?_) (by rw [List.size_toArray, dl2.length]; exact Nat.le_trans (Nat.le_of_lt hz) big_le)
              obtain ⟨own3, I3⟩ := hch (h' := h3) (c' := [(a, listOf (vs2 ++ [vv]).toArray (n2 + 1))]) rfl (fun b o hbn e => by
                rw [hs3.2 b (fun z => hbn (by simp [z]))]; exact e) (fun p hp => by
                  rw [List.mem_singleton.mp hp]
                  rw [ho3]; simp) (.list (dl2.append (DenL.cons d2 DenL.nil)))
              exact q h3 tk2 m own3 fr2 _ (Same.refl m) I3 f2 hq
  · rename_i f p
    rcases as with _ | ⟨xx, args⟩
    · exact h.elim
    replace h := nameW_of (K := fun x => turnW Γ f x args (.Call (.Name f p) (xx :: args) [] p2) ρ Q X) h
    obtain ⟨y, p1, rfl, h⟩ := h
    have okc : okE sc (.Call (.Name f p) (.Name y p1 :: args) [] p2) = true := ok_call ok
    replace ok := and2 ok
    replace ok := And.intro (And.intro (and2 ok.1).1 (and2 (and2 ok.1).2).2) ok.2
    have plain : wpE Γ.fn (.Call (.Name f p) (.Name y p1 :: args) [] p2) ρ (fun t ρ1 => t = .none ∧ Q ρ1) X → wpAny (model prog w) A (exec (.Expr (.Call (.Name f p) (.Name y p1 :: args) [] p2) pos) (envOf cn sc L fa cd)) QQ EE s := fun hp => by
      refine wpAny_Expr (soundE H.E _ okc hp I (fun v h1 tk1 own1 fr1 ρ1 t I1 f1 z1 d1 q1 => ?_) x) hi rfl
      obtain ⟨rfl, hq⟩ := q1
      rw [show v = .none from d1]
      exact q h1 tk1 m own1 fr1 ρ1 (Same.refl m) I1 f1 hq
    have h' : (match Γ.mu f, look y ρ with
      | some sp, some (.mu t) => wpL Γ.fn args ρ (fun ts ρ1 => look y ρ1 = some (.mu t) ∧ sp t ts fun t' => Q (upd y (.mu t') ρ1)) X
      | _, _ => wpE Γ.fn (.Call (.Name f p) (.Name y p1 :: args) [] p2) ρ (fun t ρ1 => t = .none ∧ Q ρ1) X) := h
    cases hm : Γ.mu f with
    | none => rw [hm] at h'; exact plain h'
    | some sp =>
      cases hl : look y ρ with
      | none => rw [hm, hl] at h'; exact plain h'
      | some sl =>
        rw [hm, hl] at h'
        cases sl with
        | val t => exact plain h'
        | mu t =>
          obtain ⟨fv, hfv, hcall⟩ := H.mu hm
          have okn : okE sc (.Name y p1) = true := ok.1.2
          refine wpAny_Expr (callee_sound H.E ⟨rfl, ok.1.1⟩ (Bool.and_eq_true_iff.mpr ⟨okn, ok.2⟩) hfv I (args_cons (sc := sc) okn ?_)) hi rfl
          rw [star_ok okn, back_cons]
          refine spliced_cons (read_name H.E ok.1.2 I (.inr hl) fun vy hvy _ => ?_)
          have fin : LPost G h₀ L m fr aux W ρ s args.length (fun ts ρ1 => look y ρ1 = some (.mu t) ∧ sp t ts fun t' => Q (upd y (.mu t') ρ1)) (fun vs s₁ => (∀ b o, h₀.get? b = some o → s₁.heap.get? b = some o) ∧ wpAny (model prog w) A (call fv (vy :: vs) []) (fun v s' => match v with | .ref _ => False | _ => QQ .next s') EE s₁) :=
            fun vs h1 tk1 own1 fr1 ρ1 ts I1 f1 z1 d1 _ q1 => ⟨I1.F.keep, hcall (s := { s with heap := h1, toks := tk1 }) I1 q1.1 hvy d1 q1.2 fun h3 tk3 own3 fr3 t' I3 f3 q3 => q h3 tk3 m own3 fr3 _ (Same.refl m) I3 (fun p hp => f3 p (f1 p hp)) q3⟩
          exact soundL H.E args ok.2 h' I fin x
end
end Mine
end
section
open PySem PySem.W PySem.Spec PySem.Calls PyProof.Rows
set_option Elab.async false
namespace Mine
set_option tactic.hygienic false
set_option maxRecDepth 100000
set_option linter.unusedVariables false
set_option linter.unusedSectionVars false

theorem rangeSize_pos {a b c : Int} (hc : 0 < c) : (Builtin.Range.rangeSize a b c).toNat = ((b - a + c - 1) / c).toNat := by
  unfold Builtin.Range.rangeSize
  rw [if_pos hc]
  split
  · have e : b - a + c - 1 = (b - a - 1) + c := by lia
    rw [e, Int.add_ediv_of_dvd_right (Int.dvd_refl c), Int.ediv_self (by lia)]
  · have : (b - a + c - 1) / c < 1 := by
      rw [Int.ediv_lt_iff_lt_mul hc]
      lia
    lia
theorem rangeL_len (a b c : Int) : (rangeL a b c).length = ((b - a + c - 1) / c).toNat := by unfold rangeL; simp
theorem range_small {a b c : Int} (hc : 0 < c) (hc' : c ≤ 16777216) (ha : -16777216 ≤ a) (ha' : a ≤ 16777216) (hb : -16777216 ≤ b) (hb' : b ≤ 16777216) : Builtin.Range.small a b c = true ∧ 0 ≤ Builtin.Range.rangeSize a b c := by
  have h1 : 0 ≤ Builtin.Range.rangeSize a b c ∧ Builtin.Range.rangeSize a b c ≤ 33554432 := by
    unfold Builtin.Range.rangeSize
    rw [if_pos hc]
    split
    · have h0 : 0 ≤ (b - a - 1) / c := Int.ediv_nonneg (by lia) (by lia)
      have h2 : (b - a - 1) / c ≤ b - a - 1 := Int.ediv_le_self _ (by lia)
      lia
    · lia
  refine ⟨?_, h1.1⟩
  unfold Builtin.Range.small
  rw [if_pos hc]
  simp only [Builtin.Range.rangeFitsLong, Bool.and_eq_true, Bool.or_eq_true, decide_eq_true_eq, beq_iff_eq]
  generalize Builtin.Range.rangeSize a b c = n at *
  lia

/-- an iterator that stands ready -/
structure Ready (prog : Program) (w : World) (A : Around) (G : Wo) (h₀ : Heap) (fr : Led) (It : Addr) (fp : List Addr) (xs : List Tr) (Pv : Nat → Value → Prop) (St : Nat → Heap → Prop) : Prop where
  walks : Walks prog w A It fp [It] xs.length Pv St
  there : ∀ i h, St i h → ∃ o, h.get? It = some o
  feet : ∀ b ∈ fp, b = It ∨ ∃ o, PF h₀ fr b o
  item : ∀ i v, i < xs.length → Pv i v → ∃ x, xs[i]? = some x ∧ Den G (PF h₀ fr) x v
  go : ∀ i (s' : Shared) tg v (Q' : Unit → Shared → Prop) (E : Value → Shared → Prop), i < xs.length → Pv i v → St (i + 1) s'.heap → Q' () s' → wpAny (model prog w) A (letOwnedTupleGo tg (.ref It) v) Q' E s'

noncomputable abbrev IPost (prog : Program) (w : World) (A : Around) (G : Wo) (h₀ : Heap) (L : Addr) (m : PySem.Str → Option Value) (fr aux : Led) (W : List Addr) (s : Shared) (Q : List Tr → Loc → Prop) (QQ : Value → Shared → Prop) : Prop :=
  ∀ It h' tk' own' fr' ρ' xs fp Pv St, Ready prog w A G h₀ fr' It fp xs Pv St → St 0 h' → Inv G h₀ L h' m own' fr' aux W ρ' → (∀ p ∈ fr, p ∈ fr') → (It ≠ L ∧ h₀.get? It = none ∧ ∀ p ∈ own' ++ fr' ++ aux, p.1 ≠ It) → Q xs ρ' → QQ (.ref It) { s with heap := h', toks := tk' }

section
variable {prog : Program} {w : World} {A : Around} {cn : PySem.Str} {sc : Scope} {fa : Addr} {cd : Value} {G : Wo} {h₀ : Heap} {L : Addr} {EN : ENow} {Γ : Sig} {gv : PySem.Str → Option Value} {m : PySem.Str → Option Value} {own fr aux : Led} {W : List Addr} {ρ : Loc} {X : XE} {s : Shared} {EE : Value → Shared → Prop}

theorem go_int {tg : Expr} {It : Addr} {i : Int} {t : Tok} {s' : Shared} {Q' : Unit → Shared → Prop} {E : Value → Shared → Prop} (h : Q' () s') : wpAny (model prog w) A (letOwnedTupleGo tg (.ref It) (.int i t)) Q' E s' := by
  unfold letOwnedTupleGo
  cases tg <;> exact wpAny_pure h

/-- a new iterator object -/
theorem it_new (I : Inv G h₀ L s.heap m own fr aux W ρ) (o : Obj) (hf : o.isFreed = false) : Inv G h₀ L (s.heap.push o) m own fr aux W ρ ∧ s.heap.objs.size ≠ L ∧ h₀.get? s.heap.objs.size = none ∧ ∀ p ∈ own ++ fr ++ aux, p.1 ≠ s.heap.objs.size :=
  ⟨I.keep (I.F.push o) fun p hp => ⟨Heap.get?_push_of_some _ (I.N p hp).1, (I.N p hp).2⟩, fun e => absurd I.F.ns.lt (e ▸ Nat.lt_irrefl _), next_is_new I.F, fun p hp e => absurd (I.look_lt p hp) (e ▸ Nat.lt_irrefl _)⟩

theorem iter_list (hh : A.handled = none) {xs : List Tr} {v : Value} {Q : List Tr → Loc → Prop} {QQ : Value → Shared → Prop} (I : Inv G h₀ L s.heap m own fr aux W ρ) (d : Den G (PF h₀ fr) (.list xs) v) (hq : Q xs ρ) (q : IPost prog w A G h₀ L m fr aux W s Q QQ) :
    wpAny (model prog w) A (pyIter v) QQ EE s := by
  obtain ⟨a, o, vs, rfl, p, c, n, dl⟩ := d
  have hl := isList_of I p c n
  refine wpAny_pyIter_list hl ?_
  obtain ⟨I', e1, e2, e3⟩ := it_new I { cls := .type "list_iterator", data := .fields #[.ref a, .int 0 0] } rfl
  have ha : a ≠ s.heap.objs.size := by
    obtain ⟨o', ho', _⟩ := hl
    exact Nat.ne_of_lt (Heap.lt_size ho')
  have hlen : vs.toArray.size = xs.length := by rw [List.size_toArray, dl.length]
  have W' := Walks.list (prog := prog) (w := w) hh s.heap.objs.size a ha vs.toArray
  rw [hlen] at W'
  refine q s.heap.objs.size _ s.toks own fr ρ xs _ _ _ ⟨W', fun i h st => ?_, fun b hb => ?_, fun i v hi hv => ?_, fun i s' tg v Q' E _ _ st h => letGo_listiter st.1 h⟩ ⟨⟨_, Heap.get?_push_size _ rfl, rfl, rfl⟩, hl.at fun o e => Heap.get?_push_of_some _ e⟩ I' (fun _ h => h) ⟨e1, e2, e3⟩ hq
  · obtain ⟨⟨o', ho', _⟩, _⟩ := st
    exact ⟨o', ho'⟩
  · rcases List.mem_cons.mp hb with e | hb
    · exact .inl e
    · rw [List.mem_singleton.mp hb]; exact .inr ⟨o, p⟩
  · exact dl.getR (by simpa using hv)

theorem iter_bytes (hh : A.handled = none) {ks : List Int} {v : Value} {Q : List Tr → Loc → Prop} {QQ : Value → Shared → Prop} (I : Inv G h₀ L s.heap m own fr aux W ρ) (d : Den G (PF h₀ fr) (.bytes ks) v) (hq : Q (ks.map Tr.int) ρ) (q : IPost prog w A G h₀ L m fr aux W s Q QQ) :
    wpAny (model prog w) A (pyIter v) QQ EE s := by
  obtain ⟨b, t, rfl, rfl⟩ := d
  refine KBw.pyIter_bytes ?_
  obtain ⟨I', e1, e2, e3⟩ := it_new I { cls := .type "bytes_iterator", data := .fields #[.bytes b t, .int 0 0] } rfl
  have W' := KBw.walks (prog := prog) (w := w) hh s.heap.objs.size b t
  have hlen : b.size = ((KBw.bInts b).map Tr.int).length := by rw [List.length_map, KBw.ints_length]
  rw [hlen] at W'
  refine q s.heap.objs.size _ s.toks own fr ρ _ _ _ _ ⟨W', fun i h st => ?_, fun b hb => .inl (List.mem_singleton.mp hb), fun i v hi hv => ?_, fun i s' tg v Q' E _ hv st h => ?_⟩ ⟨_, Heap.get?_push_size _ rfl, rfl, rfl⟩ I' (fun _ h => h) ⟨e1, e2, e3⟩ hq
  · obtain ⟨o', ho', _⟩ := st
    exact ⟨o', ho'⟩
  · obtain ⟨c, u, hc, rfl⟩ := hv
    exact ⟨.int _, by rw [List.getElem?_map, KBw.ints_get hc]; rfl, ⟨u, rfl⟩⟩
  · obtain ⟨c, u, hc, rfl⟩ := hv
    exact go_int h

theorem iter_range (hh : A.handled = none) {r : Addr} {a b c : Int} {t u v : Tok} {Q : List Tr → Loc → Prop} {QQ : Value → Shared → Prop} (I : Inv G h₀ L s.heap m own fr aux W ρ) (hr : IsRange s.heap r a b c t u v) (hc : 0 < c) (hs : Builtin.Range.small a b c = true ∧ 0 ≤ Builtin.Range.rangeSize a b c) (hq : Q ((rangeL a b c).map Tr.int) ρ) (q : IPost prog w A G h₀ L m fr aux W s Q QQ) :
    wpAny (model prog w) A (pyIter (.ref r)) QQ EE s := by
  refine wpAny_pyIter_range hr hs.1 ?_
  obtain ⟨I', e1, e2, e3⟩ := it_new I { cls := .type "range_iterator", data := .fields #[rawInt a, rawInt (Builtin.Range.rangeSize a b c), rawInt c] } rfl
  have W' := Walks.range (prog := prog) (w := w) hh s.heap.objs.size a c (Builtin.Range.rangeSize a b c).toNat
  have hlen : (Builtin.Range.rangeSize a b c).toNat = ((rangeL a b c).map Tr.int).length := by rw [List.length_map, rangeL_len, rangeSize_pos hc]
  rw [hlen] at W'
  refine q s.heap.objs.size _ s.toks own fr ρ _ _ _ _ ⟨W', fun i h st => ⟨_, st⟩, fun b hb => .inl (List.mem_singleton.mp hb), fun i v hi hv => ?_, fun i s' tg v Q' E _ hv st h => ?_⟩ ?_ I' (fun _ h => h) ⟨e1, e2, e3⟩ hq
  · obtain ⟨t, rfl⟩ := hv
    refine ⟨.int (a + i * c), ?_, ⟨t, rfl⟩⟩
    rw [List.length_map] at hi
    have hi' : i < ((b - a + c - 1) / c).toNat := by rw [← rangeL_len]; exact hi
    unfold rangeL
    rw [List.getElem?_map, List.getElem?_map, List.getElem?_range hi']
    rfl
  · obtain ⟨t, rfl⟩ := hv
    exact go_int h
  · have e : (((List.map Tr.int (rangeL a b c)).length : Nat) : Int) = Builtin.Range.rangeSize a b c := by rw [← hlen]; lia
    show IsRangeIter _ _ (a + ((0 : Nat) : Int) * c) (((List.map Tr.int (rangeL a b c)).length : Nat) - ((0 : Nat) : Int)) c
    rw [e]
    simpa using Heap.get?_push_size s.heap (o := { cls := .type "range_iterator", data := .fields #[rawInt a, rawInt (Builtin.Range.rangeSize a b c), rawInt c] }) rfl
end
end Mine
end
section
open PySem PySem.W PySem.Spec PySem.Calls PyProof.Rows
set_option Elab.async false
namespace Mine
set_option maxRecDepth 100000
set_option linter.unusedVariables false
set_option linter.unusedSectionVars false

section
variable {prog : Program} {w : World} {A : Around} {cn : PySem.Str} {sc : Scope} {fa : Addr} {cd : Value} {G : Wo} {h₀ : Heap} {L : Addr} {EN : ENow} {Γ : Sig} {gv : PySem.Str → Option Value}

theorem iter_plain (H : FG prog w A cn sc L fa cd G h₀ EN Γ gv) {m : PySem.Str → Option Value} {own fr aux : Led} {W : List Addr} {ρ : Loc} {X : XE} {s : Shared} {EE : Value → Shared → Prop} {it : Expr} {Q : List Tr → Loc → Prop} {QQ : Value → Shared → Prop} (ok : okE sc it = true)
    (h : wpE Γ.fn it ρ (fun t ρ1 => match t with
      | .list xs => xs.length ≤ big ∧ Q xs ρ1
      | .bytes ks => ks.length ≤ big ∧ Q (ks.map Tr.int) ρ1
      | _ => False) X) (I : Inv G h₀ L s.heap m own fr aux W ρ) (q : IPost prog w A G h₀ L m fr aux W s Q QQ) (x : XPost EN m aux W s X EE) :
    wpAny (model prog w) A (eval it (envOf cn sc L fa cd)) (fun xv s₁ => wpAny (model prog w) A (pyIter xv) QQ EE s₁) EE s := by
  refine soundE H.E it ok h I (fun v h1 tk1 own1 fr1 ρ1 t I1 f1 z1 d1 q1 => ?_) x
  have q' : IPost prog w A G h₀ L m fr1 aux W { s with heap := h1, toks := tk1 } Q QQ := fun It h' tk' own' fr' ρ' xs fp Pv St R st I' f' z' hq => q It h' tk' own' fr' ρ' xs fp Pv St R st I' (fun p hp => f' p (f1 p hp)) z' hq
  cases t <;> first | exact q1.elim | skip
  · exact iter_bytes (s := { s with heap := h1, toks := tk1 }) H.E.hh I1 d1 q1.2 q'
  · exact iter_list (s := { s with heap := h1, toks := tk1 }) H.E.hh I1 d1 q1.2 q'

theorem natAbs_small {c : Int} (h : 0 < c) (h2 : c ≤ 16777216) : c.natAbs < 1073741824 := by omega
theorem range_of {ts : List Tr} {K : List Tr → Prop} (h : rangeW ts K) : (∃ n, ts = [.int n] ∧ -big ≤ n ∧ n ≤ big ∧ K ((rangeL 0 n 1).map Tr.int)) ∨ ∃ a b c, ts = [.int a, .int b, .int c] ∧ 0 < c ∧ 0 ≤ a ∧ a ≤ big ∧ -big ≤ b ∧ b ≤ big ∧ c ≤ big ∧ K ((rangeL a b c).map Tr.int) := by
  match ts, h with
  | [.int n], h => exact .inl ⟨n, rfl, h⟩
  | [.int a, .int b, .int c], h => exact .inr ⟨a, b, c, rfl, h⟩
theorem iter_sound (H : FG prog w A cn sc L fa cd G h₀ EN Γ gv) {m : PySem.Str → Option Value} {own fr aux : Led} {W : List Addr} {ρ : Loc} {X : XE} {s : Shared} {EE : Value → Shared → Prop} {it : Expr} {Q : List Tr → Loc → Prop} {QQ : Value → Shared → Prop} (ok : okE sc it = true)
    (h : iterW Γ it ρ Q X) (I : Inv G h₀ L s.heap m own fr aux W ρ) (q : IPost prog w A G h₀ L m fr aux W s Q QQ) (x : XPost EN m aux W s X EE) :
    wpAny (model prog w) A (eval it (envOf cn sc L fa cd)) (fun xv s₁ => wpAny (model prog w) A (pyIter xv) QQ EE s₁) EE s := by
  cases it <;> first | exact iter_plain H ok h I q x | skip
  rename_i f args kw p
  cases kw with
  | cons _ _ => exact absurd (show false = true from (and2 ok).2) Bool.false_ne_true
  | nil =>
    replace h : (match (generalizing := false) nameOf f == "range" with
      | true => wpL Γ.fn args ρ (fun ts ρ1 => rangeW ts fun xs => Q xs ρ1) X
      | false => wpE Γ.fn (.Call f args [] p) ρ (fun t ρ1 => match (generalizing := false) t with
        | .list xs => xs.length ≤ big ∧ Q xs ρ1
        | .bytes ks => ks.length ≤ big ∧ Q (ks.map Tr.int) ρ1
        | _ => False) X) := h
    cases hn : (nameOf f == "range") with
    | false => rw [hn] at h; exact iter_plain H ok h I q x
    | true =>
      rw [hn] at h
      obtain ⟨o1, o2⟩ := and2 (and2 (and2 ok).1).1
      have o3 := (and2 (and2 ok).1).2
      clear ok
      have hf : gv (nameOf f) = some (.type "range") := by rw [beq_iff_eq.mp hn]; exact H.rng
      refine callee_sound H.E ⟨o1, o2⟩ o3 hf I ?_
      have fin : LPost G h₀ L m fr aux W ρ s args.length (fun ts ρ1 => rangeW ts fun xs => Q xs ρ1) (fun vs s₁ => (∀ b o, h₀.get? b = some o → s₁.heap.get? b = some o) ∧ wpAny (model prog w) A (call (.type "range") vs []) (fun xv s₁ => wpAny (model prog w) A (pyIter xv) QQ EE s₁) EE s₁) := by
        intro vs h1 tk1 own1 fr1 ρ1 ts I1 f1 z1 d1 _ q1
        have push : ∀ {o : Obj} {tk : Nat}, o.isFreed = false → IPost prog w A G h₀ L m fr1 aux W { s with heap := h1.push o, toks := tk } Q QQ := fun _ It h' tk' own' fr' ρ' xs fp Pv St R st I' f' z' hq => q It h' tk' own' fr' ρ' xs fp Pv St R st I' (fun p hp => f' p (f1 p hp)) z' hq
        refine ⟨I1.F.keep, ?_⟩
        rcases range_of q1 with ⟨n, rfl, n1, n2, hq⟩ | ⟨a, b, c, rfl, c1, a1, a2, b1, b2, c2, hq⟩
        · obtain ⟨v, r, rfl, ⟨t, rfl⟩, rfl⟩ := d1
          refine call_range_1 (s := { s with heap := h1, toks := tk1 }) ?_
          exact iter_range H.E.hh (it_new (s := { s with heap := h1, toks := tk1 }) I1 _ rfl).1 (IsRange.new ..) (by decide) (range_small (by decide) (by decide) (by decide) (by decide) n1 n2) hq (push rfl)
        · obtain ⟨va, r, rfl, ⟨t, rfl⟩, vb, r', rfl, ⟨t', rfl⟩, vc, r'', rfl, ⟨t'', rfl⟩, rfl⟩ := d1
          refine call_range_3 (s := { s with heap := h1, toks := tk1 }) (Int.ne_of_gt c1) ?_ (.inl (PyProof.noPylong_small (natAbs_small c1 c2)))
          exact iter_range H.E.hh (it_new (s := { s with heap := h1, toks := tk1 }) I1 _ rfl).1 (IsRange.new ..) c1 (range_small c1 c2 (Int.le_trans (by decide) a1) a2 b1 b2) hq (push rfl)
      exact args_all o3 (fun e => by subst e; exact fin [] s.heap s.toks own fr ρ [] I (fun _ h => h) (Fz.refl ρ) rfl rfl h) (soundL H.E args o3 h I fin x)

/-- the soundness of a body -/
noncomputable abbrev SB (prog : Program) (w : World) (A : Around) (cn : PySem.Str) (sc : Scope) (L fa : Addr) (cd : Value) (G : Wo) (h₀ : Heap) (EN : ENow) (Γ : Sig) (kp : List PySem.Str) (b : List Stmt) : Prop :=
  ∀ {m : PySem.Str → Option Value} {own fr aux : Led} {W : List Addr} {ρ : Loc} {Q : Fl → Loc → Prop} {X : XE} {s : Shared} {QQ : Flow → Shared → Prop} {EE : Value → Shared → Prop}, okB sc kp b = true → wpB Γ b ρ Q X → Inv G h₀ L s.heap m own fr aux W ρ → PassesOwn (model prog w) A (envOf cn sc L fa cd) EE →
    SPost G h₀ L fr aux W s Q (fun P m ρ => FlR G P m ρ) (Same kp m) QQ → SXPost EN aux W s X EE → wpAny (model prog w) A (execs b (envOf cn sc L fa cd)) QQ EE s
noncomputable abbrev SS (prog : Program) (w : World) (A : Around) (cn : PySem.Str) (sc : Scope) (L fa : Addr) (cd : Value) (G : Wo) (h₀ : Heap) (EN : ENow) (Γ : Sig) (kp : List PySem.Str) (b : Stmt) : Prop :=
  ∀ {m : PySem.Str → Option Value} {own fr aux : Led} {W : List Addr} {ρ : Loc} {Q : Fl → Loc → Prop} {X : XE} {s : Shared} {QQ : Flow → Shared → Prop} {EE : Value → Shared → Prop}, okS sc kp b = true → wpS Γ b ρ Q X → Inv G h₀ L s.heap m own fr aux W ρ → PassesOwn (model prog w) A (envOf cn sc L fa cd) EE →
    SPost G h₀ L fr aux W s Q (fun P m ρ => FlR G P m ρ) (Same kp m) QQ → SXPost EN aux W s X EE → wpAny (model prog w) A (exec b (envOf cn sc L fa cd)) QQ EE s

theorem while_sound {kp : List PySem.Str} (H : FG prog w A cn sc L fa cd G h₀ EN Γ gv) {t : Expr} {body : List Stmt} {pos : Pos} (hb : SB prog w A cn sc L fa cd G h₀ EN Γ kp body) : SS prog w A cn sc L fa cd G h₀ EN Γ kp (.While t body [] pos) := by
  intro m own fr aux W ρ Q X s QQ EE ok h I hE q x
  replace ok := and2 ok
  obtain ⟨J, ⟨n, h0⟩, turn⟩ := h
  refine wpAny_While ?_
  refine codeAny_whileLoop (R := fun r s' => match r with | .ok f => QQ f s' | .error e => cameBackBy (model prog w) A (envOf cn sc L fa cd) EE e s')
    (fun n s' => ∃ h' tk' m' own' fr' ρ', s' = { s with heap := h', toks := tk' } ∧ Inv G h₀ L h' m' own' fr' aux W ρ' ∧ (∀ p ∈ fr, p ∈ fr') ∧ J n ρ' ∧ Same kp m m') ?_ n ⟨s.heap, s.toks, m, own, fr, ρ, rfl, I, fun _ h => h, h0, Same.refl m⟩
  rintro n _ ⟨h1, tk1, m1, own1, fr1, ρ1, rfl, I1, f1, hJ, km1⟩
  refine wpAny_passesOwn hE (soundT H.E t ok.1 (turn n ρ1 hJ) I1 (fun c h2 tk2 own2 fr2 ρ2 I2 f2 z2 q2 => ?_) (x m1))
  cases c with
  | false =>
    rw [if_neg Bool.false_ne_true]
    exact wpAny_execs_nil (q .next .next h2 tk2 m1 own2 fr2 ρ2 km1 I2 (fun p hp => f2 p (f1 p hp)) .next (q2.2 rfl))
  | true =>
    rw [if_pos rfl]
    refine wpAny_passesOwn hE (hb (s := { s with heap := h2, toks := tk2 }) ok.2 (q2.1 rfl) I2 hE (fun fl f h3 tk3 m3 own3 fr3 ρ3 km3 I3 f3 r3 q3 => ?_) x)
    have f3' : ∀ p ∈ fr, p ∈ fr3 := fun p hp => f3 p (f2 p (f1 p hp))
    cases r3 with
    | next =>
      obtain ⟨k, hk, hJ'⟩ := q3
      exact ⟨k, hk, h3, tk3, m3, own3, fr3, ρ3, rfl, I3, f3', hJ', km1.trans km3⟩
    | cont =>
      obtain ⟨k, hk, hJ'⟩ := q3
      exact ⟨k, hk, h3, tk3, m3, own3, fr3, ρ3, rfl, I3, f3', hJ', km1.trans km3⟩
    | ret d => exact q _ _ h3 tk3 m3 own3 fr3 ρ3 (km1.trans km3) I3 f3' (.ret d) q3
    | retm a b => exact q _ _ h3 tk3 m3 own3 fr3 ρ3 (km1.trans km3) I3 f3' (.retm a b) q3
end
end Mine
end
section
open PySem PySem.W PySem.Spec PySem.Calls PyProof.Rows
set_option Elab.async false
namespace Mine
set_option maxRecDepth 100000
set_option linter.unusedVariables false
set_option linter.unusedSectionVars false

/-- what holds at a turn of a for loop -/
noncomputable def ForI (G : Wo) (h₀ : Heap) (L : Addr) (aux : Led) (W : List Addr) (s : Shared) (St : Nat → Heap → Prop) (fr0 : Led) (It : Addr) (J : Nat → Loc → Prop) (kp : List PySem.Str) (m : PySem.Str → Option Value) (n k : Nat) (s' : Shared) : Prop :=
  ∃ h' tk' m' own' fr' ρ' i, s' = { s with heap := h', toks := tk' } ∧ St i h' ∧ Inv G h₀ L h' m' own' fr' aux W ρ' ∧ (∀ p ∈ fr0, p ∈ fr') ∧ (∀ p ∈ own' ++ fr', p.1 ≠ It) ∧ J i ρ' ∧ Same kp m m' ∧ i ≤ n ∧ k = n + 1 - i
section
variable {prog : Program} {w : World} {A : Around} {cn : PySem.Str} {sc : Scope} {fa : Addr} {cd : Value} {G : Wo} {h₀ : Heap} {L : Addr} {EN : ENow} {Γ : Sig} {gv : PySem.Str → Option Value}

theorem for_sound {kp : List PySem.Str} (H : FG prog w A cn sc L fa cd G h₀ EN Γ gv) {tg it : Expr} {body : List Stmt} {pos : Pos} (hb : SB prog w A cn sc L fa cd G h₀ EN Γ kp body) : SS prog w A cn sc L fa cd G h₀ EN Γ kp (.For tg it body [] pos) := by
  intro m own fr aux W ρ Q X s QQ EE ok h I hE q x
  obtain ⟨ok, ok2⟩ := and2 ok
  replace ok := and2 ok
  refine wpAny_For ?_ (folded_ok ok.2)
  refine iter_sound H ok.2 h I (fun It hp0 tk0 own0 fr0 ρ0 xs fp Pv St R st0 I0 f0 z0 hJ => ?_) (x m)
  obtain ⟨J, j0, turn, fin⟩ := hJ
  obtain ⟨zL, zn, zoff⟩ := z0
  obtain ⟨ownD, ID, subD⟩ := I0.filt (fun p => !(namesIn tg).contains p.1)
  have auxoff : ∀ p ∈ aux, p.1 ≠ It := fun p hp => zoff p (List.mem_append_right _ hp)
  refine codeAny_forLoop_any (R := fun r s' => match r with | .ok f => QQ f s' | .error e => cameBackBy (model prog w) A (envOf cn sc L fa cd) EE e s')
    (ForI G h₀ L aux W s St fr0 It J kp m xs.length) ?_ (xs.length + 1)
    ⟨hp0, tk0, m, ownD, fr0, _, 0, rfl, st0, ID, fun _ h => h, fun p hp => ?_, j0, Same.refl m, Nat.zero_le _, rfl⟩
  case refine_2 =>
    refine zoff p ?_
    rcases List.mem_append.mp hp with hp | hp
    · exact List.mem_append_left _ (List.mem_append_left _ (subD p hp))
    · exact List.mem_append_left _ (List.mem_append_right _ hp)
  rintro k _ ⟨h', tk', m', own', fr', ρ', i, rfl, st, I', f', off', hj, km', hi, rfl⟩
  have move : ∀ h₁ : Heap, (∀ b o, b ∉ [It] → h'.get? b = some o → h₁.get? b = some o) → Inv G h₀ L h₁ m' own' fr' aux W ρ' := fun h₁ hk => by
    refine I'.keep ⟨I'.F.ns.at' fun o e => hk _ o (by simpa using zL.symm) e, fun b o e => hk b o (fun hm => ?_) (I'.F.keep b o e), I'.F.above⟩ fun p hp => ⟨hk _ _ (fun hm => ?_) (I'.N p hp).1, (I'.N p hp).2⟩
    · rw [List.mem_singleton.mp hm, zn] at e; cases e
    · rcases List.mem_append.mp hp with hp | hp
      · exact off' p hp (List.mem_singleton.mp hm)
      · exact auxoff p hp (List.mem_singleton.mp hm)
  by_cases hlt : i < xs.length
  · refine R.walks.item i _ _ _ hlt st fun v h₁ tk₁ hP st₁ hk₁ => ?_
    have I₁ := move h₁ hk₁
    obtain ⟨xv, hxv, dx⟩ := R.item i v hlt hP
    obtain ⟨ρ2, e2, hb2⟩ := turn i xv ρ' hxv hj
    obtain ⟨oI, hoI⟩ := R.there _ _ st₁
    have IG : Inv G h₀ L h₁ m' own' fr' ([(It, oI)] ++ aux) ([(It, oI)].map (·.1) ++ W) ρ' := I₁.guard (fun p hp => by rw [List.mem_singleton.mp hp]; exact ⟨hoI, zL, zn⟩) (fun p hp q hq e => by
      rw [List.mem_singleton.mp hq] at e; exact off' p hp e)
    refine R.go i _ tg v _ _ hlt hP st₁ ?_
    refine bind_sound (s := { s with heap := h₁, toks := tk₁ }) H.E.kind H.E.hh ok.1 e2 (dx.mono (PF.mono f')) IG fun h₂ tk₂ m₂ own₂ km₂ I₂ => ?_
    refine wpAny_mono (hb (s := { s with heap := h₂, toks := tk₂ }) (EE := fun _ _ => False) (QQ := fun f s₃ => match f with
            | .next | .cont => ∃ mm, mm < xs.length + 1 - i ∧ ForI G h₀ L aux W s St fr0 It J kp m xs.length mm s₃
            | .brk => QQ .next s₃
            | .ret v => QQ (.ret v) s₃) ok2 hb2 I₂ PassesOwn.never (fun fl f h₃ tk₃ m₃ own₃ fr₃ ρ₃ km₃ I₃ f₃ r₃ q₃ => ?_) fun _ _ _ _ _ _ _ _ _ _ hx => hx) (fun f s₃ z => z) fun _ _ z => z.elim
    have IU := I₃.unguard I
    have f3' : ∀ p ∈ fr, p ∈ fr₃ := fun p hp => f₃ p (f' p (f0 p hp))
    have offI : ∀ p ∈ own₃ ++ fr₃, p.1 ≠ It := fun p hp e => I₃.S.offW p hp (by rw [e]; exact .head _)
    have stn : St (i + 1) h₃ := R.walks.frame _ _ _ st₁ fun b hbf o e => by
      rcases R.feet b hbf with rfl | ⟨o', po⟩
      · rw [hoI] at e
        cases e
        exact (I₃.N (b, oI) (List.mem_append_right _ (.head _))).1
      · rw [I₁.pf (PF.mono f' _ _ po)] at e
        cases e
        exact IU.pf (PF.mono (fun p hp => f₃ p (f' p hp)) _ _ po)
    have again : J (i + 1) (dels (namesIn tg) ρ₃) → ∃ mm, mm < xs.length + 1 - i ∧ ForI G h₀ L aux W s St fr0 It J kp m xs.length mm { s with heap := h₃, toks := tk₃ } := fun hj' => by
      obtain ⟨own₄, I₄, sub₄⟩ := IU.filt (fun p => !(namesIn tg).contains p.1)
      refine ⟨xs.length + 1 - (i + 1), by omega, h₃, tk₃, m₃, own₄, fr₃, _, i + 1, rfl, stn, I₄, fun p hp => f₃ p (f' p hp), fun p hp => ?_, hj', (km'.trans km₂).trans km₃, hlt, rfl⟩
      rcases List.mem_append.mp hp with hp | hp
      · exact offI p (List.mem_append_left _ (sub₄ p hp))
      · exact offI p (List.mem_append_right _ hp)
    cases r₃ with
    | next => exact again q₃
    | cont => exact again q₃
    | ret d => exact q _ _ h₃ tk₃ m₃ own₃ fr₃ ρ₃ ((km'.trans km₂).trans km₃) IU f3' (.ret d) q₃
    | retm a b => exact q _ _ h₃ tk₃ m₃ own₃ fr₃ ρ₃ ((km'.trans km₂).trans km₃) IU f3' (.retm a b) q₃
  · have hin : i = xs.length := by omega
    subst hin
    exact R.walks.done _ _ _ st fun h₁ tk₁ hk₁ => wpAny_execs_nil (q .next .next h₁ tk₁ m' own' fr' ρ' km' (move h₁ hk₁) (fun p hp => f' p (f0 p hp)) .next (fin ρ' hj))

theorem noI_bytes_add : typeLookup (.type "bytes") (dunderI "add") = pure none := by rw [typeLookup_type, builtinLookup_eq_fast]; kernel_rfl
theorem iadd_bytesM {E : Value → Shared → Prop} {s : Shared} {b c : Array UInt8} {t u : Tok} {Q : Value → Shared → Prop} (hsz : b.size + c.size ≤ 16777216) (h : ∀ t' k, Q (.bytes (b ++ c) t') { s with toks := k }) : wpAny (model prog w) A (inplaceOp .Add (.bytes b t) (.bytes c u)) Q E s := by
  refine iconcat_gives (typeIs_bytes s b t) (typeIs_bytes s c u) noI_bytes_add KBy.noFill_bytes_add KBy.seq_bytes_add FB.slot_bytes_add FB.entry_bytes_add (FB.args_bytes_add_2 _ _) (KBy.gives_bytes_add (KBy.tooLong_not hsz)) ?_
  by_cases hb : b.isEmpty = true
  · rw [if_pos hb]
    have e : b = #[] := Array.isEmpty_iff.1 hb
    have h' := h u s.toks
    rw [e, Array.empty_append] at h'
    exact h'
  · rw [if_neg hb]
    by_cases hc : c.isEmpty = true
    · rw [if_pos hc]
      have e : c = #[] := Array.isEmpty_iff.1 hc
      have h' := h t s.toks
      rw [e, Array.append_empty] at h'
      exact h'
    · rw [if_neg hc]
      exact ⟨by rw [Array.size_append, sizeLine_eq]; exact hsz, h s.toks (s.toks + 1)⟩

theorem aug_sound {m : PySem.Str → Option Value} {own fr aux : Led} {W : List Addr} {ρ : Loc} {s : Shared} {EE : Value → Shared → Prop} {op : Operator} {a b : Tr} {Q : Tr → Prop} {va vb : Value} {QQ : Value → Shared → Prop} (h : augW op a b Q) (I : Inv G h₀ L s.heap m own fr aux W ρ) (ha : Den G (PF h₀ fr) a va) (hb : Den G (PF h₀ fr) b vb)
    (k : VPost G h₀ L m own fr aux W ρ s Q QQ) : wpAny (model prog w) A (inplaceOp op va vb) QQ EE s := by
  cases a <;> (try exact h.elim) <;> cases b <;> (try exact h.elim)
  · obtain ⟨t, rfl⟩ := ha; obtain ⟨u, rfl⟩ := hb
    obtain ⟨rfl, hq⟩ := h
    exact PyProof.Rows.iadd_int (k _ s.heap _ fr (.int _) I (fun _ h => h) ⟨_, rfl⟩ hq)
  · obtain ⟨x, t, rfl, hx⟩ := ha; obtain ⟨y, u, rfl, hy⟩ := hb
    obtain ⟨rfl, h1, h2⟩ := h
    refine iadd_bytesM (by rw [← KBw.ints_length x, ← KBw.ints_length y, hx, hy]; exact h1) fun t' tk => ?_
    exact k _ s.heap tk fr (.bytes _) I (fun _ h => h) ⟨_, _, rfl, KBw.ints_app hx hy⟩ h2

theorem ret_sound {kp : List PySem.Str} (H : FG prog w A cn sc L fa cd G h₀ EN Γ gv) {e : Option Expr} {pos : Pos} : SS prog w A cn sc L fa cd G h₀ EN Γ kp (.Return e pos) := by
  intro m own fr aux W ρ Q X s QQ EE ok h I hE q x
  cases e with
  | none => exact wpAny_Return_none (q _ _ s.heap s.toks m own fr ρ (Same.refl m) I (fun _ h => h) (.ret (t := .none) rfl) h)
  | some e =>
    have plain : wpE Γ.fn e ρ (fun t ρ1 => Q (.ret t) ρ1) X → wpAny (model prog w) A (exec (.Return (some e) pos) (envOf cn sc L fa cd)) QQ EE s := fun hp =>
      wpAny_Return_some (soundE H.E e ok hp I (fun v h1 tk1 own1 fr1 ρ1 t I1 f1 z1 d1 q1 => q _ _ h1 tk1 m own1 fr1 ρ1 (Same.refl m) I1 f1 (.ret d1) q1) (x m))
    cases e <;> first | exact plain h | skip
    rename_i y p
    replace h : (match (generalizing := false) look y ρ with
      | some (.mu t) => Q (.retm y t) ρ
      | _ => wpE Γ.fn (.Name y p) ρ (fun t ρ1 => Q (.ret t) ρ1) X) := h
    cases hl : look y ρ with
    | none => rw [hl] at h; exact plain h
    | some sl =>
      rw [hl] at h
      cases sl with
      | val t => exact plain h
      | mu t => exact wpAny_Return_some (read_name H.E ok I (.inr hl) fun v hv _ => q _ _ s.heap s.toks m own fr ρ (Same.refl m) I (fun _ h => h) (.retm hl hv) h)


theorem raise_inv {e c : Option Expr} {ρ : Loc} {X : XE} (h : raiseW Γ e c ρ X) : ∃ f p1 y k p2 p3 C, e = some (.Call (.Name f p1) [.Constant (.str y) k p2] [] p3) ∧ c = none ∧ Γ.ex f = some C ∧ X C y ρ := by
  unfold raiseW at h
  cases hr : raised e c with
  | none => rw [hr] at h; exact h.elim
  | some q =>
    obtain ⟨f, y⟩ := q
    rw [hr] at h
    obtain ⟨p1, k, p2, p3, he, hc⟩ := raised_of hr
    cases hx : Γ.ex f with
    | none =>
      replace h : (match Γ.ex f with
        | some C => X C y ρ
        | none => False) := h
      rw [hx] at h; exact h.elim
    | some C =>
      replace h : (match Γ.ex f with
        | some C => X C y ρ
        | none => False) := h
      rw [hx] at h
      exact ⟨f, p1, y, k, p2, p3, C, he, hc, hx, h⟩
theorem raise_sound {kp : List PySem.Str} (H : FG prog w A cn sc L fa cd G h₀ EN Γ gv) {e c : Option Expr} {pos : Pos} : SS prog w A cn sc L fa cd G h₀ EN Γ kp (.Raise e c pos) := by
  intro m own fr aux W ρ Q X s QQ EE ok h I hE q x
  obtain ⟨f, p1, y, k, p2, p3, C, rfl, rfl, hx, hX⟩ := raise_inv h
  have ok' : gloN sc f = true := ok
  exact H.raise hx ok' I fun e h' tk' he => x m e h' tk' own fr ρ C y he hX

theorem aug_stmt {kp : List PySem.Str} (H : FG prog w A cn sc L fa cd G h₀ EN Γ gv) {t e : Expr} {op : Operator} {pos : Pos} : SS prog w A cn sc L fa cd G h₀ EN Γ kp (.AugAssign t op e pos) := by
  intro m own fr aux W ρ Q X s QQ EE ok h I hE q x
  obtain ⟨ok, ok2⟩ := and2 ok
  replace ok := and2 ok
  replace h : (match (generalizing := false) look (nameOf t) ρ with
      | some (.val a) => wpE Γ.fn e ρ (fun b ρ1 => augW op a b fun t' => Q .next (upd (nameOf t) (.val t') ρ1)) X
      | _ => False) := h
  have hn : ∃ y p, t = .Name y p := by
    cases t <;> first | exact ⟨_, _, rfl⟩ | exact absurd (show false = true from ok.1) Bool.false_ne_true
  obtain ⟨y, p, rfl⟩ := hn
  cases hl : look (nameOf (.Name y p)) ρ with
  | none => rw [hl] at h; exact h.elim
  | some sl =>
    rw [hl] at h
    cases sl with
    | mu t => exact h.elim
    | val a =>
      obtain ⟨va, hva, da⟩ := I.look_val hl
      obtain ⟨o1, o2⟩ := locN_of (cn := cn) (fa := fa) (cd := cd) (L := L) (asg_loc ok.2)
      refine wpAny_AugAssign_Name (ldn I.F hva ?_ H.E.kind o1)
      refine soundE H.E e ok2 h I (fun v h1 tk1 own1 fr1 ρ1 t I1 f1 z1 d1 q1 => ?_) (x m)
      refine aug_sound (s := { s with heap := h1, toks := tk1 }) q1 I1 (da.mono (PF.mono f1)) d1 fun v3 h3 tk3 fr3 t3 I3 f3 d3 q3 => ?_
      exact st_val (s := { s with heap := h3, toks := tk3 }) H.E.kind (asg_loc ok.2) I3 d3 fun h4 tk4 own4 I4 => q _ _ h4 tk4 _ own4 fr3 _ (Same.bind ok.2) I4 (fun p hp => f3 p (f1 p hp)) .next q3

theorem if_stmt {kp : List PySem.Str} (H : FG prog w A cn sc L fa cd G h₀ EN Γ gv) {t : Expr} {a b : List Stmt} {pos : Pos} (ha : SB prog w A cn sc L fa cd G h₀ EN Γ kp a) (hb : SB prog w A cn sc L fa cd G h₀ EN Γ kp b) : SS prog w A cn sc L fa cd G h₀ EN Γ kp (.If t a b pos) := by
  intro m own fr aux W ρ Q X s QQ EE ok h I hE q x
  obtain ⟨ok, ok2⟩ := and2 ok
  replace ok := and2 ok
  refine wpAny_If (soundT H.E t ok.1 (Q := fun c ρ1 => (c = true → wpB Γ a ρ1 Q X) ∧ (c = false → wpB Γ b ρ1 Q X)) h I (fun c h1 tk1 own1 fr1 ρ1 I1 f1 z1 q1 => ?_) (x m))
  cases c with
  | true =>
    rw [if_pos rfl]
    exact ha (s := { s with heap := h1, toks := tk1 }) ok.2 (q1.1 rfl) I1 hE (fun fl f h3 tk3 m3 own3 fr3 ρ3 km3 I3 f3 r3 q3 => q fl f h3 tk3 m3 own3 fr3 ρ3 km3 I3 (fun p hp => f3 p (f1 p hp)) r3 q3) x
  | false =>
    rw [if_neg Bool.false_ne_true]
    exact hb (s := { s with heap := h1, toks := tk1 }) ok2 (q1.2 rfl) I1 hE (fun fl f h3 tk3 m3 own3 fr3 ρ3 km3 I3 f3 r3 q3 => q fl f h3 tk3 m3 own3 fr3 ρ3 km3 I3 (fun p hp => f3 p (f1 p hp)) r3 q3) x

theorem assign_stmt {kp : List PySem.Str} (H : FG prog w A cn sc L fa cd G h₀ EN Γ gv) {ts : List Expr} {e : Expr} {pos : Pos} : SS prog w A cn sc L fa cd G h₀ EN Γ kp (.Assign ts e pos) := by
  intro m own fr aux W ρ Q X s QQ EE ok h I hE q x
  replace ok := and2 ok
  exact assign_sound H ok.1 ok.2 h I (fun h' tk' m' own' fr' ρ' km' I' f' q' => q _ _ h' tk' m' own' fr' ρ' km' I' f' .next q') (x m)
theorem expr_stmt {kp : List PySem.Str} (H : FG prog w A cn sc L fa cd G h₀ EN Γ gv) {e : Expr} {pos : Pos} : SS prog w A cn sc L fa cd G h₀ EN Γ kp (.Expr e pos) := by
  intro m own fr aux W ρ Q X s QQ EE ok h I hE q x
  exact expr_sound H ok h I (fun h' tk' m' own' fr' ρ' km' I' f' q' => q _ _ h' tk' m' own' fr' ρ' km' I' f' .next q') (x m)

theorem cons_sound {kp : List PySem.Str} {st : Stmt} {r : List Stmt} (hs : SS prog w A cn sc L fa cd G h₀ EN Γ kp st) (hr : SB prog w A cn sc L fa cd G h₀ EN Γ kp r) : SB prog w A cn sc L fa cd G h₀ EN Γ kp (st :: r) := by
  intro m own fr aux W ρ Q X s QQ EE ok h I hE q x
  replace ok := and2 ok
  refine wpAny_execs_cons (hs ok.1 (Q := fun fl ρ1 => match fl with
      | .next => wpB Γ r ρ1 Q X
      | fl => Q fl ρ1) h I hE (fun fl f h1 tk1 m1 own1 fr1 ρ1 km1 I1 f1 r1 q1 => ?_) x)
  cases r1 with
  | next => exact hr (s := { s with heap := h1, toks := tk1 }) ok.2 q1 I1 hE (fun fl f h3 tk3 m3 own3 fr3 ρ3 km3 I3 f3 r3 q3 => q fl f h3 tk3 m3 own3 fr3 ρ3 (km1.trans km3) I3 (fun p hp => f3 p (f1 p hp)) r3 q3) x
  | cont => exact q _ _ h1 tk1 m1 own1 fr1 ρ1 km1 I1 f1 .cont q1
  | ret d => exact q _ _ h1 tk1 m1 own1 fr1 ρ1 km1 I1 f1 (.ret d) q1
  | retm a b => exact q _ _ h1 tk1 m1 own1 fr1 ρ1 km1 I1 f1 (.retm a b) q1

theorem no_SS {kp : List PySem.Str} {b : Stmt} (h : ∀ ρ Q X, wpS Γ b ρ Q X → False) : SS prog w A cn sc L fa cd G h₀ EN Γ kp b := fun _ k => (h _ _ _ k).elim
theorem sound_all {kp : List PySem.Str} (H : FG prog w A cn sc L fa cd G h₀ EN Γ gv) : ∀ n : Nat, (∀ st : Stmt, sizeOf st < n → SS prog w A cn sc L fa cd G h₀ EN Γ kp st) ∧ (∀ b : List Stmt, sizeOf b < n → SB prog w A cn sc L fa cd G h₀ EN Γ kp b)
  | 0 => ⟨fun _ h => absurd h (Nat.not_lt_zero _), fun _ h => absurd h (Nat.not_lt_zero _)⟩
  | n + 1 => by
    have ih := sound_all (kp := kp) H n
    refine ⟨fun st hz => ?_, fun b hz => ?_⟩
    · cases st <;> first
        | exact assign_stmt H
        | exact aug_stmt H
        | exact expr_stmt H
        | exact ret_sound H
        | exact raise_sound H
        | skip
      case If t a b pos =>
        simp only [Stmt.If.sizeOf_spec] at hz
        exact if_stmt H (ih.2 a (by omega)) (ih.2 b (by omega))
      case While t b orelse pos =>
        simp only [Stmt.While.sizeOf_spec] at hz
        cases orelse with
        | nil => exact while_sound H (ih.2 b (by omega))
        | cons _ _ => exact no_SS (by exact fun _ _ _ h => h)
      case For t it b orelse pos =>
        simp only [Stmt.For.sizeOf_spec] at hz
        cases orelse with
        | nil => exact for_sound H (ih.2 b (by omega))
        | cons _ _ => exact no_SS (by exact fun _ _ _ h => h)
      case Continue pos =>
        intro m own fr aux W ρ Q X s QQ EE ok h I hE q x
        exact wpAny_Continue (q _ _ s.heap s.toks m own fr ρ (Same.refl m) I (fun _ h => h) .cont h)
      all_goals (exact no_SS (by exact fun _ _ _ h => h))
    · cases b with
      | nil =>
        intro m own fr aux W ρ Q X s QQ EE ok h I hE q x
        exact wpAny_execs_nil (q _ _ s.heap s.toks m own fr ρ (Same.refl m) I (fun _ h => h) .next h)
      | cons st r =>
        simp only [List.cons.sizeOf_spec] at hz
        exact cons_sound (ih.1 st (by omega)) (ih.2 r (by omega))
theorem soundB {kp : List PySem.Str} (H : FG prog w A cn sc L fa cd G h₀ EN Γ gv) (b : List Stmt) : SB prog w A cn sc L fa cd G h₀ EN Γ kp b := (sound_all (kp := kp) H (sizeOf b + 1)).2 b (Nat.lt_succ_self _)
end
end Mine
end
section
open PySem PySem.W PySem.Spec PySem.Calls PyProof.Rows
set_option Elab.async false
namespace Mine
set_option tactic.hygienic false
set_option maxRecDepth 100000
set_option linter.unusedVariables false
set_option linter.unusedSectionVars false

/-- room for d calls more -/
structure Room (A : Around) (d : Nat) : Prop where
  depth : A.depth + d ≤ 1000
  units : A.units + 4 * d + 8 < 9900
  hh : A.handled = none
theorem Room.less {A : Around} {d d' : Nat} (r : Room A d) (h : d' ≤ d) : Room A d' := ⟨by have := r.depth; lia, by have := r.units; lia, r.hh⟩
theorem Room.deeper {A : Around} {d : Nat} (r : Room A (d + 1)) (env : Env) : Room (A.deeper env) d := ⟨by have := r.depth; show A.depth + 1 + d ≤ 1000; lia, by have := r.units; show A.units + 3 + 4 * d + 8 < 9900; lia, r.hh⟩

noncomputable def framesOf (l : List Env) : List Addr := l.filterMap (·.frame)
/-- the frames that stand -/
structure Stack (A : Around) (G : Wo) (L : Addr) (l : List Env) : Prop where
  is : A.frames = some l
  top : ∃ env r, l = env :: r ∧ env.frame = some L ∧ framesOf r = G.outs
  kinds : ∀ env ∈ l, env.scope.kind ≠ .module ∧ ∃ a, env.frame = some a

/-- an exception flies: its object, its word, what is kept -/
structure Flies (h₀ : Heap) (l : List Env) (L : Addr) (m : PySem.Str → Option Value) (led : Led) (h : Heap) (e C : Addr) (y : PySem.Str) : Prop where
  stays : ∀ b o, h₀.get? b = some o → h.get? b = some o
  frames : h.FunFrames h₀ l
  ns : h.Ns L m
  kept : ∀ p ∈ led, (p.1 ∉ framesOf l → h.get? p.1 = some p.2) ∧ ∃ sl, h.get? p.1 = some { p.2 with slots := sl }
  exc : ∃ (d : Addr) (vs : Array Value) (es : List DictEntry) (n : Nat) (t : Tok) (sl : Array (Option Value)), h.get? e = some { cls := .ref C, dict := some d, data := .fields vs, slots := sl } ∧ h₀.get? e = none ∧ 1 < vs.size ∧ h.get? d = some (dictOf es n) ∧ h₀.get? d = none ∧ getL "why" es = some (some (.str y t)) ∧
    d ∉ framesOf l ∧ e ∉ led.map (·.1) ∧ d ∉ led.map (·.1) ∧
    (vs[1]? = some .none ∨ ∃ (T : Addr) (oT : Obj) (ts : Array Value), vs[1]? = some (.ref T) ∧ h₀.get? T = none ∧ T ≠ e ∧ T ∉ led.map (·.1) ∧ h.get? T = some oT ∧ oT.data = .fields ts ∧ ts[3]? = some .none)
noncomputable def EN (h₀ : Heap) (l : List Env) (L : Addr) (hold : Led) : ENow := fun m own fr aux W ρ h e C y => Flies h₀ l L m (own ++ fr ++ aux) h e C y ∧ ∀ p ∈ hold, p ∈ fr

noncomputable def Contract (prog : Program) (w : World) (G : Wo) (h₀ : Heap) (n : Nat) (v : Value) (sp : Spec) : Prop :=
  ∀ {A : Around} {G' : Wo} {l : List Env} {L : Addr} {m : PySem.Str → Option Value} {own fr aux : Led} {W : List Addr} {ρ : Loc} {s : Shared} {ts : List Tr} {vs : List Value} {Q : Tr → Prop} {X : Addr → PySem.Str → Prop} {QQ EE : Value → Shared → Prop}, G.Like G' → Room A n → Stack A G' L l → Inv G' h₀ L s.heap m own fr aux W ρ → DenL G' (PF h₀ fr) ts vs → sp ts Q X →
    VPost G' h₀ L m own fr aux W ρ s Q QQ → (∀ e h' tk' C y, EN h₀ l L G'.hold m own fr aux W ρ h' e C y → X C y → EE (.ref e) { s with heap := h', toks := tk' }) → wpAny (model prog w) A (call v vs) QQ EE s

/-- the part of the program that is written down stands in the heap -/
structure Base (prog : Program) (w : World) (K : Frag) (h₀ : Heap) : Prop where
  X : K.In h₀
  T : ∃ p loose mg mb, TopRead p loose mg mb h₀

noncomputable def gvK (K : Frag) (x : PySem.Str) : Option Value := match nsIn K mainGlobals x with
  | some (some v) => some v
  | some none => if x == "__name__" then none else bootBuiltins x
  | none => none

/-- the names of the program that may be called -/
noncomputable def gvP (K : Frag) (x : PySem.Str) : Option Value := match gvK K x with
  | some (.ref a) => if keepIn K (.ref a) then some (.ref a) else none
  | r => r
section
variable {prog : Program} {w : World} {K : Frag} {h₀ : Heap}
theorem gloN_of {sc : Scope} {cn : PySem.Str} {L fa : Addr} {cd : Value} {x : PySem.Str} (h : gloN sc x = true) : (envOf cn sc L fa cd).kindOf x = some .globalImplicit ∧ (x == ("__debug__" : PySem.Str)) = false := by
  simp only [gloN, Bool.and_eq_true, decide_eq_true_eq, Bool.not_eq_true'] at h
  exact h
theorem glob_name (B : Base prog w K h₀) {A : Around} {cn : PySem.Str} {sc : Scope} {L fa : Addr} {cd : Value} (hk : sc.kind = .function) {x : PySem.Str} {v : Value} {pos : Pos} {s : Shared} {m : PySem.Str → Option Value} {Q E : Value → Shared → Prop} (hv : gvK K x = some v) (hg : gloN sc x = true) (F : Fr h₀ L s.heap m) (h : Q v s) :
    wpAny (model prog w) A (eval (.Name x pos) (envOf cn sc L fa cd)) Q E s := by
  obtain ⟨p, loose, mg, mb, T⟩ := B.T
  obtain ⟨g1, g2⟩ := gloN_of (cn := cn) (fa := fa) (cd := cd) (L := L) hg
  unfold gvK at hv
  cases hn : nsIn K mainGlobals x with
  | none => rw [hn] at hv; cases hv
  | some r =>
    rw [hn] at hv
    cases r with
    | some u => cases hv; exact name_K F B.X T hn h hk g1 g2
    | none =>
      dsimp only at hv
      split at hv
      · cases hv
      · rename_i hx
        exact name_B F B.X T hn hv (fun e => hx (by rw [e]; rfl)) h hk g1 g2
end
end Mine
end
section
open PySem PySem.W PySem.Spec PySem.Calls PyProof.Rows
set_option Elab.async false
namespace Mine
set_option tactic.hygienic false
set_option maxRecDepth 100000
set_option linter.unusedVariables false
set_option linter.unusedSectionVars false

theorem lookup_mem {x : PySem.Str} {v : Value} : ∀ {l : List (PySem.Str × Value)}, (l.map (·.1)).Nodup → (x, v) ∈ l → l.lookup x = some v
  | (y, u) :: r, nd, h => by
    have nd' := List.nodup_cons.mp nd
    rcases List.mem_cons.mp h with e | h
    · cases e
      simp [List.lookup]
    · have hne : ¬ x = y := fun e => nd'.1 (e ▸ List.mem_map.mpr ⟨_, h, rfl⟩)
      have hb : (x == y) = false := beq_false_of_ne hne
      rw [List.lookup_cons, hb]
      exact lookup_mem nd'.2 h

theorem zip_keys {α β : Type} : ∀ {a : List α} {b : List β}, a.length = b.length → (a.zip b).map (·.1) = a
  | [], [], _ => rfl
  | x :: a, y :: b, h => by
    simp only [List.zip_cons_cons, List.map_cons]
    rw [zip_keys (by simpa using h)]

theorem loc_args {G : Wo} {P : Facts} {m : PySem.Str → Option Value} {names : List PySem.Str} : ∀ {ts : List Tr} {vs : List Value}, DenL G P ts vs → names.length = ts.length → (∀ x v, (x, v) ∈ names.zip vs → m x = some v) → LocR G P m (names.zip (ts.map Slot.val)) [] := by
  induction names with
  | nil => intro ts vs _ _ _; exact .nil
  | cons x names ih =>
    intro ts vs d hl hm
    cases ts with
    | nil => exact absurd hl (Nat.succ_ne_zero _)
    | cons t ts =>
      obtain ⟨v, r, rfl, dv, dl⟩ := d
      exact LocR.cons (x := x) (c := []) (hm x v (.head _)) (.val dv) (ih dl (Nat.succ.inj hl) fun y u hy => hm y u (.tail _ hy))

noncomputable abbrev below (G : Wo) (L : Addr) (fr : Led) : Wo := { G with outs := L :: G.outs, hold := fr }
theorem like_below (G : Wo) (L : Addr) (fr : Led) : G.Like (below G L fr) := ⟨rfl, rfl, rfl⟩

section
variable {G : Wo} {h₀ : Heap} {L L' : Addr} {m : PySem.Str → Option Value} {own fr aux : Led} {W : List Addr} {ρ : Loc} {s : Shared} {h1 : Heap} {oL : Obj}

theorem ns_obj (I : Inv G h₀ L s.heap m own fr aux W ρ) : ∃ o, s.heap.get? L = some o ∧ ∀ vs, o.data ≠ .fields vs := by
  obtain ⟨o, es, ep, ho, hd, _⟩ := I.F.ns
  exact ⟨o, ho, fun vs e => by rw [hd] at e; cases e⟩

/-- the callee's frame is laid -/
theorem enter_inv (I : Inv G h₀ L s.heap m own fr aux W ρ) (hoL : s.heap.get? L = some oL) (hd : ∀ vs, oL.data ≠ .fields vs) {m1 : PySem.Str → Option Value} (n1 : h1.Ns s.heap.objs.size m1) (k1 : ∀ b o, s.heap.get? b = some o → h1.get? b = some o)
    {own1 : Led} {ρ1 : Loc} (hown : ∀ p ∈ own1, p ∈ own) (hnd : (own1.map (·.1)).Nodup) (rest : Led) (hrest : ∀ p ∈ rest, p ∈ own) (hoff : ∀ p ∈ own1, ∀ q ∈ rest, p.1 ≠ q.1) (nd1 : (ρ1.map (·.1)).Nodup) (loc : LocR (below G L fr) (PF h₀ fr) m1 ρ1 own1) :
    Inv (below G L fr) h₀ s.heap.objs.size h1 m1 own1 fr (rest ++ (L, oL) :: aux) (rest.map (·.1) ++ L :: W) ρ1 := by
  have hLlt : L < s.heap.objs.size := Heap.lt_size hoL
  have hL0 : h₀.get? L = none := Heap.get?_none_of_le I.F.above
  have one : ∀ p, p ∈ own ++ fr ++ aux → h1.get? p.1 = some p.2 ∧ p.1 ≠ s.heap.objs.size ∧ h₀.get? p.1 = none := fun p hp => ⟨k1 _ _ (I.N p hp).1, Nat.ne_of_lt (I.look_lt p hp), (I.N p hp).2.2⟩
  refine ⟨⟨n1, fun b o e => k1 _ _ (I.F.keep b o e), Nat.le_of_lt (Nat.lt_of_le_of_lt I.F.above hLlt)⟩, fun p hp => ?_, ⟨loc, nd1, hnd, fun p hp q hq => I.S.off p (hown p hp) q hq, fun p hp hW => ?_⟩, fun b hb => ?_, fun q hq => ?_, fun a ha => ?_, fun p hp => hp⟩
  · simp only [List.mem_append, List.mem_cons] at hp
    rcases hp with (hp | hp) | hp | rfl | hp
    · exact one p (by simp [hown p hp])
    · exact one p (by simp [hp])
    · exact one p (by simp [hrest p hp])
    · exact ⟨k1 _ _ hoL, Nat.ne_of_lt hLlt, hL0⟩
    · exact one p (by simp [hp])
  · have hp' : p ∈ own ++ fr := by
      rcases List.mem_append.mp hp with hp | hp
      · exact List.mem_append_left _ (hown p hp)
      · exact List.mem_append_right _ hp
    simp only [List.mem_append, List.mem_cons] at hW
    rcases hW with hW | hW | hW
    · obtain ⟨q, hq, e⟩ := List.mem_map.mp hW
      rcases List.mem_append.mp hp with hp | hp
      · exact hoff p hp q hq e.symm
      · exact I.S.off q (hrest q hq) p hp e
    · exact (I.N p (List.mem_append_left _ hp')).2.1 hW
    · exact I.S.offW p hp' hW
  · simp only [List.mem_append, List.mem_cons] at hb
    rcases hb with hb | rfl | hb
    · obtain ⟨q, hq, rfl⟩ := List.mem_map.mp hb
      exact ⟨q.2, by simp [hq]⟩
    · exact ⟨oL, by simp⟩
    · obtain ⟨o, ho⟩ := I.live b hb
      exact ⟨o, by simp [ho]⟩
  · simp only [List.mem_append, List.mem_cons] at hq ⊢
    rcases hq with hq | rfl | hq
    · exact .inl (List.mem_map_of_mem hq)
    · exact .inr (.inl rfl)
    · exact .inr (.inr (I.cover q hq))
  · rcases List.mem_cons.mp ha with rfl | ha
    · exact ⟨oL, by simp, hd⟩
    · obtain ⟨o, h1, h2⟩ := I.outs a ha
      exact ⟨o, by simp [h1], h2⟩

/-- the callee's frame is left -/
theorem leave_inv (I : Inv G h₀ L s.heap m own fr aux W ρ) (hoL : s.heap.get? L = some oL) {h' : Heap} {m' : PySem.Str → Option Value} {own' fr' : Led} {ρ' : Loc} (J : Inv (below G L fr) h₀ L' h' m' own' fr' (own ++ (L, oL) :: aux) (own.map (·.1) ++ L :: W) ρ') (hf : ∀ p ∈ fr, p ∈ fr') :
    Inv G h₀ L h' m own fr' aux W ρ ∧ ∀ c : Led, (∀ p ∈ c, p ∈ own') → (c.map (·.1)).Nodup → Fresh h₀ L h' own fr' W c := by
  have offo : ∀ p ∈ own' ++ fr', ∀ q ∈ own, p.1 ≠ q.1 := fun p hp q hq e => J.S.offW p hp (by rw [e]; simp only [List.mem_append]; exact .inl (List.mem_map_of_mem hq))
  have offL : ∀ p ∈ own' ++ fr', p.1 ≠ L := fun p hp e => J.S.offW p hp (by simp [e])
  have offW : ∀ p ∈ own' ++ fr', p.1 ∉ W := fun p hp e => J.S.offW p hp (by simp [e])
  have keepL : h'.get? L = some oL := (J.N (L, oL) (by simp)).1
  refine ⟨⟨⟨I.F.ns.at' fun o e => by rw [hoL] at e; cases e; exact keepL, J.F.keep, I.F.above⟩, fun p hp => ?_, ⟨I.S.loc.mono (PF.mono hf), I.S.nd, I.S.ndo, fun p hp q hq e => offo q (List.mem_append_right _ hq) p hp e.symm, fun p hp => ?_⟩, I.live, I.cover, I.outs, fun p hp => hf p (I.hold p hp)⟩, fun c hc nd => ⟨fun p hp => ?_, nd, fun p hp q hq => ?_, fun p hp => offW p (List.mem_append_left _ (hc p hp))⟩⟩
  · simp only [List.mem_append] at hp
    rcases hp with (hp | hp) | hp
    · exact ⟨(J.N p (by simp [hp])).1, (I.N p (by simp [hp])).2⟩
    · exact ⟨(J.N p (by simp [hp])).1, offL p (by simp [hp]), (J.N p (by simp [hp])).2.2⟩
    · exact ⟨(J.N p (by simp [hp])).1, (I.N p (by simp [hp])).2⟩
  · rcases List.mem_append.mp hp with hp | hp
    · exact I.S.offW p (List.mem_append_left _ hp)
    · exact offW p (List.mem_append_right _ hp)
  · have := J.N p (by simp [hc p hp])
    exact ⟨this.1, offL p (List.mem_append_left _ (hc p hp)), this.2.2⟩
  · rcases List.mem_append.mp hq with hq | hq
    · exact offo p (List.mem_append_left _ (hc p hp)) q hq
    · exact J.S.off p (hc p hp) q hq
end

section
variable {prog : Program} {w : World} {K : Frag} {h₀ : Heap} {G : Wo}

noncomputable def retOf : Flow → Value
  | .ret v => v
  | _ => .none

/-- a def is entered and left -/
theorem call_fn {A : Around} {f : Addr} {name qual : PySem.Str} {params : Arguments} {body : List Stmt} {scope : Scope} {dV kV doc pm cdv ct oc : Value} {an od : Option Addr} {osl : Array (Option Value)} {vs : List Value} {binds : List (PySem.Str × Value)} {s : Shared} {QQ EE : Value → Shared → Prop}
    (B : Base prog w K h₀) (hk : ∀ b o, h₀.get? b = some o → s.heap.get? b = some o) (ho : K.lookup f = some ⟨oc, od, .func (fnOf name qual params body scope dV kV doc pm an cdv ct), osl⟩) (hcd : codeIn K cdv qual = true) (hroom : A.depth < 1000)
    (hbind : BindsTo s (fnOf name qual params body scope dV kV doc pm an cdv ct) ⟨vs, []⟩ binds) (hloc : ∀ x ∈ binds, scope.names.lookup x.1 = some .local) (hcell : ∀ x ∈ scope.names, x.2 ≠ .cell)
    (h : ∀ h1, h1.Ns s.heap.objs.size (fun x => binds.reverse.lookup x) → (∀ b o, s.heap.get? b = some o → h1.get? b = some o) →
      wpAny (model prog w) (A.deeper (envOf qual scope s.heap.objs.size f cdv)) (execs body (envOf qual scope s.heap.objs.size f cdv)) (fun fl s' => QQ (retOf fl) s')
        (fun e s' => wpAny (model prog w) (A.deeper (envOf qual scope s.heap.objs.size f cdv)) (leaving (envOf qual scope s.heap.objs.size f cdv) e) (fun _ s'' => EE e s'') (fun e' s'' => EE e' s'') s') { s with heap := h1, toks := s.toks + binds.length })
    (hco : scope.isCoroutine = false) (hgen : scope.isGenerator = false) (hkd : scope.kind = .function) : wpAny (model prog w) A (call (.ref f) vs) QQ EE s := by
  obtain ⟨p, loose, mg, mb, T⟩ := B.T
  refine wpAny_call (codeAny_call_def (fd := fnOf name qual params body scope dV kV doc pm an cdv ct) (body := body) (binds := binds) hroom (hk _ _ (B.X _ _ ho)) rfl (T.nolimit.keeps hk) (codeRec_of (B.X.keeps hk) hcd) rfl hbind hcell hloc (fun h1 n1 k1 => ?_) hco hgen hkd)
  refine wpAny_mono (h h1 n1 k1) (fun fl s' q => ?_) fun e s' q => q
  cases fl <;> exact q
end
end Mine
end
section
open PySem PySem.W PySem.Spec PySem.Calls PyProof.Rows
set_option Elab.async false
namespace Mine
set_option tactic.hygienic false
set_option maxRecDepth 100000
set_option linter.unusedVariables false
set_option linter.unusedSectionVars false

section
variable {M : Model} {A : Around} {E : Value → Shared → Prop} {s : Shared} {h₀ : Heap} {env : Env} {l : List Env} {L e : Addr} {oe : Obj} {vs : Array Value}

/-- what a frame's note leaves behind -/
structure Noted (S : List Addr) (h h' : Heap) (e : Addr) (T : Option Addr) (oe : Obj) : Prop where
  size : h.objs.size ≤ h'.objs.size
  same : ∀ b o, h.get? b = some o → b ∉ S → b ≠ e → (∀ t, T = some t → b ≠ t) → h'.get? b = some o
  slots : ∀ b o, h.get? b = some o → b ≠ e → (∀ t, T = some t → b ≠ t) → ∃ sl, h'.get? b = some { o with slots := sl }
  exc : ∃ T' oT ts, h.get? T' = none ∧ T' ≠ e ∧ h'.get? e = some (oe.mapFields (·.setIfInBounds 1 (.ref T'))) ∧ h'.get? T' = some oT ∧ oT.data = .fields ts ∧ ts[3]? = some .none

theorem note_new {head : Value} {hadNext : Bool} {Q : Unit → Shared → Prop} (hfr : A.frames = some (env :: l)) (hl : s.heap.FunFrames h₀ (env :: l)) (hf : env.frame = some L) (he : s.heap.get? e = some oe) (hd : oe.data = .fields vs) (hsz : 1 < vs.size)
    (h : ∀ h', Noted (framesOf (env :: l)) s.heap h' e none oe → Q () { s with heap := h' }) :
    wpAny M A (do let a ← frameOf env; let pl ← entryPlaceOf L hadNext; let b ← EntryCells.newEntry head a .none (rawInt L) .none pl; setField (.ref e) 1 b) (fun _ s' => wpAny M A (setFlight (.ref e) none) Q E s') E s := by
  have heS : e ∉ framesOf (env :: l) := fun hm => by
    obtain ⟨_, o, ho, hnf⟩ := hl.mem hm
    rw [he] at ho
    cases ho
    exact hnf vs hd
  refine wpAny_bind (wpAny_frameOf_fun hfr hl hf fun h1 sl1 => ?_)
  have he1 : h1.get? e = some oe := (sl1.2.1 e heS).trans he
  refine wpAny_bind (wpAny_entryPlaceOf fun pl hpl => ?_)
  unfold EntryCells.newEntry newFields
  refine wpAny_bind (wpAny_newObj_type ?_ (hpl.sizeOk5 _ _ _ _ _))
  have he2 := Heap.get?_push_of_some (h := h1) { cls := .type "traceback", dict := none, data := .fields ([head, .ref L, .none, rawInt L, .none] ++ (if pl.isEmpty then List.replicate 6 Value.none else pl)).toArray } he1
  refine wpAny_setField he2 hd hsz ?_
  have hne : h1.objs.size ≠ e := Nat.ne_of_gt (Heap.lt_size he1)
  have hd3 := Obj.data_mapFields hd (·.setIfInBounds 1 (Value.ref h1.objs.size))
  have he3 := Heap.get?_update_self (Obj.mapFields (·.setIfInBounds 1 (Value.ref h1.objs.size))) he2 (Obj.isFreed_of_fields hd3)
  have hT3 := (Heap.get?_update_other (h1.push { cls := .type "traceback", dict := none, data := .fields ([head, .ref L, .none, rawInt L, .none] ++ (if pl.isEmpty then List.replicate 6 Value.none else pl)).toArray })
    (Obj.mapFields (·.setIfInBounds 1 (Value.ref h1.objs.size))) hne.symm).trans (Heap.get?_push_size h1 rfl)
  unfold setFlight
  refine wpAny_bind (wpAny_field he3 hd3 (x := .ref h1.objs.size) (by simp [hsz]) ?_)
  rw [if_pos (show (Value.ref h1.objs.size != Value.none) = true from by simp)]
  refine wpAny_setField hT3 rfl (by simp only [List.size_toArray, List.length_append, List.length_cons, List.length_nil] <;> lia) (h _ ?_)
  have keep : ∀ b o, b ≠ e → h1.get? b = some o →
      (((h1.push { cls := .type "traceback", dict := none, data := .fields ([head, .ref L, .none, rawInt L, .none] ++ (if pl.isEmpty then List.replicate 6 Value.none else pl)).toArray }).update e (Obj.mapFields (·.setIfInBounds 1 (Value.ref h1.objs.size)))).update h1.objs.size
        (Obj.mapFields (·.setIfInBounds 3 ((none : Option Addr).elim Value.none fun f => rawInt f)))).get? b = some o := fun b o hbe hb => by
    rw [Heap.get?_update_other _ _ (Nat.ne_of_gt (Heap.lt_size hb)), Heap.get?_update_other _ _ hbe.symm]
    exact Heap.get?_push_of_some _ hb
  refine ⟨?_, fun b o hb hS hbe _ => keep b o hbe ((sl1.2.1 b hS).trans hb), fun b o hb hbe _ => ?_, h1.objs.size, _, _, ?_, hne, ?_, Heap.get?_update_self _ hT3 (Obj.isFreed_of_fields (Obj.data_mapFields rfl _)), Obj.data_mapFields rfl _, ?_⟩
  · simp only [Heap.size_update, Heap.size_push]
    have := sl1.1
    lia
  · obtain ⟨sl, hs⟩ := sl1.2.2 b o hb
    exact ⟨sl, keep b _ hbe hs⟩
  · exact Heap.get?_none_of_le (Nat.le_of_eq sl1.1.symm)
  · rw [Heap.get?_update_other _ _ hne]; exact he3
  · first | (simp; done) | (rcases hpl with rfl | ⟨_, _, _, _, _, _, _, rfl⟩ <;> simp)

theorem notes {T : Option Addr} {Q : Unit → Shared → Prop} (hfr : A.frames = some (env :: l)) (hl : s.heap.FunFrames h₀ (env :: l)) (hf : env.frame = some L) (he : s.heap.get? e = some oe) (hd : oe.data = .fields vs) (hsz : 1 < vs.size)
    (h1 : match T with
      | none => vs[1]? = some .none
      | some t => vs[1]? = some (.ref t) ∧ t ≠ e ∧ h₀.get? t = none ∧ ∃ oT ts, s.heap.get? t = some oT ∧ oT.data = .fields ts ∧ ts[3]? = some .none)
    (h : ∀ h', Noted (framesOf (env :: l)) s.heap h' e T oe → Q () { s with heap := h' }) : wpAny M A (noteFrame (.ref e) env) (fun _ s' => wpAny M A (setFlight (.ref e) none) Q E s') E s := by
  unfold noteFrame
  simp only [hf]
  cases T with
  | none =>
    refine wpAny_bind (wpAny_field he hd h1 ?_)
    rw [if_neg (by decide)]
    exact note_new hfr hl hf he hd hsz h
  | some t =>
    obtain ⟨h1, hte, ht0, oT, ts, hT, hdT, h3⟩ := h1
    refine wpAny_bind (wpAny_field he hd h1 ?_)
    rw [if_pos (show (Value.ref t != Value.none) = true from by simp)]
    refine wpAny_bind (wpAny_field hT hdT h3 ?_)
    rw [if_neg (show ¬ ((Value.none == rawInt L) = true) from by simp [rawInt])]
    refine wpAny_bind (wpAny_setField hT hdT (Array.getElem?_eq_some_iff.mp h3).1 ?_)
    have other : ∀ b, b ≠ t → (s.heap.update t (Obj.mapFields (·.setIfInBounds 3 Value.none))).get? b = s.heap.get? b := fun b hb => Heap.get?_update_other _ _ hb.symm
    have hl' : (s.heap.update t (Obj.mapFields (·.setIfInBounds 3 Value.none))).FunFrames h₀ (env :: l) := hl.of_keeps fun b o hb hnf => ⟨o, (other b (fun z => by rw [z, hT] at hb; cases hb; exact hnf ts hdT)).trans hb, rfl⟩
    refine note_new (s := { s with heap := s.heap.update t (Obj.mapFields (·.setIfInBounds 3 Value.none)) }) hfr hl' hf ((other e hte.symm).trans he) hd hsz fun h' n => h h' ?_
    refine ⟨by have := n.size; simpa only [Heap.size_update] using this, fun b o hb hS hbe hbt => n.same b o ((other b (hbt t rfl)).trans hb) hS hbe (fun _ z => nomatch z), fun b o hb hbe hbt => n.slots b o ((other b (hbt t rfl)).trans hb) hbe (fun _ z => nomatch z), ?_⟩
    obtain ⟨T', oT', ts', a1, a2, a3⟩ := n.exc
    refine ⟨T', oT', ts', ?_, a2, a3⟩
    by_cases z : T' = t
    · have a1' : (s.heap.update t (Obj.mapFields (·.setIfInBounds 3 Value.none))).get? T' = none := a1
      rw [z, Heap.get?_update_self _ hT (Obj.isFreed_of_fields (Obj.data_mapFields hdT _))] at a1'
      cases a1'
    · exact (other T' z).symm.trans a1
end

/-- a note in the frame keeps the flight -/
theorem flies_note {M : Model} {A : Around} {E : Value → Shared → Prop} {s : Shared} {h₀ : Heap} {env : Env} {l : List Env} {L' e C : Addr} {y : PySem.Str} {m' : PySem.Str → Option Value} {led' : Led} {Q : Unit → Shared → Prop} (hfr : A.frames = some (env :: l)) (hf : env.frame = some L') (X : Flies h₀ (env :: l) L' m' led' s.heap e C y)
    (k : ∀ h', Flies h₀ (env :: l) L' m' led' h' e C y → (∀ b o, s.heap.get? b = some o → (∀ vs, o.data ≠ .fields vs) → ∃ sl, h'.get? b = some { o with slots := sl }) → Q () { s with heap := h' }) :
    wpAny M A (noteFrame (.ref e) env) (fun _ s' => wpAny M A (setFlight (.ref e) none) Q E s') E s := by
  obtain ⟨d, vs, es, n, t, sl, he, he0, hsz, hdd, hd0, hw, hdf, heL, hdL, hT⟩ := X.exc
  have heS : e ∉ framesOf (env :: l) := fun hm => by
    obtain ⟨_, o, ho, hnf⟩ := X.frames.mem hm
    rw [he] at ho
    cases ho
    exact hnf vs rfl
  have fin : ∀ (T : Option Addr), (∀ x, T = some x → h₀.get? x = none ∧ x ∉ led'.map (·.1) ∧ ∃ oT ts, s.heap.get? x = some oT ∧ oT.data = .fields ts) → ∀ h', Noted (framesOf (env :: l)) s.heap h' e T { cls := .ref C, dict := some d, data := .fields vs, slots := sl } → Q () { s with heap := h' } := by
    intro T hTT h' nt
    obtain ⟨T', oT', ts', b1, b2, b3, b4, b5, b6⟩ := nt.exc
    have heT : ∀ b o, s.heap.get? b = some o → (∀ vs, o.data ≠ .fields vs) → ∀ x, T = some x → b ≠ x := fun b o hb hnf x hx e' => by
      obtain ⟨_, _, oT, ts, hoT, hdT⟩ := hTT x hx
      rw [e', hoT] at hb
      cases hb
      exact hnf ts hdT
    have hdne : d ≠ e := fun z => by rw [z, he] at hdd; cases hdd
    have gen : ∀ b o, s.heap.get? b = some o → (∀ vs, o.data ≠ .fields vs) → ∃ sl, h'.get? b = some { o with slots := sl } := fun b o hb hnf =>
      nt.slots b o hb (fun z => by rw [z, he] at hb; cases hb; exact hnf vs rfl) (heT b o hb hnf)
    refine k h' ⟨fun b o hb => ?_, X.frames.of_keeps fun b o hb hnf => ?_, ?_, fun p hp => ?_, d, vs.setIfInBounds 1 (.ref T'), es, n, t, sl, ?_, he0, ?_, ?_, hd0, hw, hdf, heL, hdL, .inr ⟨T', oT', ts', ?_, ?_, b2, fun hm => ?_, b4, b5, b6⟩⟩ gen
    · refine nt.same b o (X.stays b o hb) (fun hm => ?_) (fun z => by rw [z, he0] at hb; cases hb) fun x hx z => by rw [z, (hTT x hx).1] at hb; cases hb
      have := (X.frames.mem hm).1
      rw [this] at hb
      cases hb
    · obtain ⟨sl', q⟩ := gen b o hb hnf
      exact ⟨_, q, rfl⟩
    · obtain ⟨o, es', ep, ho, hdt, r⟩ := X.ns
      obtain ⟨sl', q⟩ := gen L' o ho fun vs q => by rw [hdt] at q; cases q
      exact ⟨_, es', ep, q, hdt, r⟩
    · have hpe : p.1 ≠ e := fun z => heL (z ▸ List.mem_map_of_mem hp)
      have hpT : ∀ x, T = some x → p.1 ≠ x := fun x hx z => (hTT x hx).2.1 (z ▸ List.mem_map_of_mem hp)
      obtain ⟨k1, sl1, k2⟩ := X.kept p hp
      refine ⟨fun hn => nt.same _ _ (k1 hn) hn hpe hpT, ?_⟩
      obtain ⟨sl2, k3⟩ := nt.slots _ _ k2 hpe hpT
      exact ⟨sl2, k3⟩
    · exact b3
    · simpa using hsz
    · exact nt.same d _ hdd hdf hdne (heT d _ hdd (fun _ z => nomatch z))
    · simp [hsz]
    · cases q : h₀.get? T' with
      | none => rfl
      | some o => rw [X.stays _ _ q] at b1; cases b1
    · obtain ⟨p, hp, z⟩ := List.mem_map.mp hm
      obtain ⟨_, sl1, k2⟩ := X.kept p hp
      rw [z, b1] at k2
      cases k2
  rcases hT with hT | ⟨T, oT, ts, t1, t2, t3, t4, t5, t6, t7⟩
  · exact notes (T := none) hfr X.frames hf he rfl hsz hT (fin none fun x hx => nomatch hx)
  · exact notes (T := some T) hfr X.frames hf he rfl hsz ⟨t1, t3, t2, oT, ts, t5, t6, t7⟩ (fin (some T) fun x hx => by cases hx; exact ⟨t2, t4, oT, ts, t5, t6⟩)

/-- the flight seen from the frame around -/
theorem Flies.out {h₀ h h1 : Heap} {env : Env} {l : List Env} {L L' e C : Addr} {y : PySem.Str} {m m' : PySem.Str → Option Value} {led led' : Led} {oL : Obj} (hf : env.frame = some L') (X : Flies h₀ (env :: l) L' m' led' h e C y) (hled : ∀ p ∈ led, p ∈ led') (hoff : ∀ p ∈ led, p.1 ≠ L') (hL : (L, oL) ∈ led') (hoL : h1.get? L = some oL) (hns : h1.Ns L m) :
    Flies h₀ l L m led h e C y := by
  obtain ⟨d, vs, es, n, t, sl, he, he0, hsz, hdd, hd0, hw, hdf, heL, hdL, hT⟩ := X.exc
  have fr : ∀ b, b ∈ framesOf l → b ∈ framesOf (env :: l) := fun b hb => by
    unfold framesOf at hb ⊢
    rw [List.filterMap_cons, hf]
    exact .tail _ hb
  have sub : ∀ b, b ∈ led.map (·.1) → b ∈ led'.map (·.1) := fun b hb => by
    obtain ⟨p, hp, rfl⟩ := List.mem_map.mp hb
    exact List.mem_map_of_mem (hled p hp)
  refine ⟨X.stays, X.frames.2.2, ?_, fun p hp => ?_, d, vs, es, n, t, sl, he, he0, hsz, hdd, hd0, hw, fun hm => hdf (fr d hm), fun hm => heL (sub e hm), fun hm => hdL (sub d hm), hT.imp id fun ⟨T, oT, ts, t1, t2, t3, t4, t5⟩ => ⟨T, oT, ts, t1, t2, t3, fun hm => t4 (sub T hm), t5⟩⟩
  · obtain ⟨o, es', ep, ho, hdt, r⟩ := hns
    rw [hoL] at ho
    cases ho
    obtain ⟨_, sl1, k2⟩ := X.kept (L, oL) hL
    exact ⟨_, es', ep, k2, hdt, r⟩
  · obtain ⟨k1, k2⟩ := X.kept p (hled p hp)
    refine ⟨fun hn => k1 fun hm => ?_, k2⟩
    unfold framesOf at hn hm
    rw [List.filterMap_cons, hf] at hm
    rcases List.mem_cons.mp hm with z | z
    · exact hoff p hp z
    · exact hn z

/-- out of a frame -/
theorem leave_exc {M : Model} {A : Around} {EE E : Value → Shared → Prop} {s : Shared} {h₀ : Heap} {env : Env} {l : List Env} {L L' e C : Addr} {y : PySem.Str} {m m' : PySem.Str → Option Value} {led led' : Led} {oL : Obj} (hfr : A.frames = some (env :: l)) (hf : env.frame = some L') (X : Flies h₀ (env :: l) L' m' led' s.heap e C y)
    (hled : ∀ p ∈ led, p ∈ led') (hoff : ∀ p ∈ led, p.1 ≠ L') (hL : (L, oL) ∈ led') {h : Heap} (hoL : h.get? L = some oL) (hns : h.Ns L m) (k : ∀ h', Flies h₀ l L m led h' e C y → EE (.ref e) { s with heap := h' }) :
    wpAny M A (leaving env (.ref e)) (fun _ s'' => EE (.ref e) s'') E s :=
  wpAny_bind (flies_note hfr hf X fun h' X' _ => k h' (X'.out hf hled hoff hL hoL hns))
end Mine
end
section
open PySem PySem.W PySem.Spec PySem.Calls PyProof.Rows
set_option Elab.async false
namespace Mine
set_option tactic.hygienic false
set_option maxRecDepth 100000
set_option linter.unusedVariables false
set_option linter.unusedSectionVars false

theorem Wo.Like.trans {G G' G'' : Wo} (x : G.Like G') (y : G'.Like G'') : G.Like G'' := ⟨x.pm.trans y.pm, x.ipC.trans y.ipC, x.exC.trans y.exC⟩

/-- the objects that a name alone holds -/
theorem Inv.cell {G : Wo} {h₀ h : Heap} {L : Addr} {m : PySem.Str → Option Value} {own fr aux : Led} {W : List Addr} {ρ : Loc} (I : Inv G h₀ L h m own fr aux W ρ) {x : PySem.Str} {t : Tr} (e : Mine.look x ρ = some (.mu t)) :
    ∃ v c, m x = some v ∧ Cell G (PF h₀ fr) t v c ∧ (∀ p ∈ c, p ∈ own) ∧ (c.map (·.1)).Nodup := by
  obtain ⟨o1, c, o2, h1, _, h3, _⟩ := I.S.loc.at x I.S.nd
  obtain ⟨v, hv, hs⟩ := h3 _ e
  have nd := I.S.ndo
  rw [h1, List.map_append, List.map_append, List.append_assoc] at nd
  have nc := (List.nodup_append.mp (List.nodup_append.mp nd).2.1).1
  cases hs with
  | mu hc => exact ⟨v, c, hv, hc, fun p hp => by rw [h1]; simp [hp], nc⟩

/-- a def as the heap holds it -/
structure Def (K : Frag) (f : Addr) (qual : PySem.Str) (body : List Stmt) (scope : Scope) (cdv : Value) (names : List PySem.Str) (fill : List Tr → Option (List Tr)) : Prop where
  there : ∃ name params dV kV doc pm ct oc an od osl, K.lookup f = some ⟨oc, od, .func (fnOf name qual params body scope dV kV doc pm an cdv ct), osl⟩ ∧
    (∀ (G : Wo) (P : Facts) ts vs full, fill ts = some full → DenL G P ts vs → ∃ vs', DenL G P full vs' ∧ full.length = names.length ∧ ∀ s : Shared, K.In s.heap → BindsTo s (fnOf name qual params body scope dV kV doc pm an cdv ct) ⟨vs, []⟩ (names.zip vs')) ∧
    ∀ vs : List Value, vs.length = names.length → ∀ s : Shared, K.In s.heap → BindsTo s (fnOf name qual params body scope dV kV doc pm an cdv ct) ⟨vs, []⟩ (names.zip vs)
  code : codeIn K cdv qual = true
  nd : names.Nodup
  loc : ∀ x ∈ names, scope.names.lookup x = some .local
  cell : ∀ x ∈ scope.names, x.2 ≠ .cell
  kind : scope.kind = .function
  co : scope.isCoroutine = false
  gen : scope.isGenerator = false

/-- how a def's frame reads the program -/
noncomputable abbrev Reader (prog : Program) (w : World) (K : Frag) (G : Wo) (h₀ : Heap) (n : Nat) (qual : PySem.Str) (scope : Scope) (f : Addr) (cdv : Value) (Γ : Sig) : Prop :=
  ∀ {A : Around} {G' : Wo} {l : List Env} {L : Addr}, Room A n → Stack A G' L l → G.Like G' → FG prog w A qual scope L f cdv G' h₀ (EN h₀ l L G'.hold) Γ (gvP K)

noncomputable def endQ (Q : Tr → Prop) : Fl → Loc → Prop
  | .next, _ => Q .none
  | .cont, _ => False
  | .ret t, _ => Q t
  | .retm _ t, _ => Q t

section
variable {prog : Program} {w : World} {K : Frag} {h₀ : Heap} {G : Wo} {f : Addr} {qual : PySem.Str} {body : List Stmt} {scope : Scope} {cdv : Value} {names : List PySem.Str} {fill : List Tr → Option (List Tr)} {n : Nat} {Γ : Sig}

theorem run_fn {kp : List PySem.Str} (B : Base prog w K h₀) (D : Def K f qual body scope cdv names fill) (R : Reader prog w K G h₀ n qual scope f cdv Γ) (ok : okB scope kp body = true)
    {A : Around} {G' : Wo} {l : List Env} {L : Addr} {m : PySem.Str → Option Value} {own fr aux : Led} {W : List Addr} {ρ : Loc} {s : Shared} {vs vs' : List Value} {Q : Fl → Loc → Prop} {X : Addr → PySem.Str → Prop} {QQ EE : Value → Shared → Prop}
    (k : G.Like G') (hr : Room A (n + 1)) (S : Stack A G' L l) (I : Inv G' h₀ L s.heap m own fr aux W ρ) (hlen : vs'.length = names.length)
    (hbind : ∃ name params dV kV doc pm ct oc an od osl, K.lookup f = some ⟨oc, od, .func (fnOf name qual params body scope dV kV doc pm an cdv ct), osl⟩ ∧ BindsTo s (fnOf name qual params body scope dV kV doc pm an cdv ct) ⟨vs, []⟩ (names.zip vs'))
    {oL : Obj} (hoL : s.heap.get? L = some oL) (hnf : ∀ vs, oL.data ≠ .fields vs) {own1 rest : Led} {ρ1 : Loc} (hown : ∀ p ∈ own1, p ∈ own) (hnd : (own1.map (·.1)).Nodup) (hrest : ∀ p ∈ rest, p ∈ own) (hoff : ∀ p ∈ own1, ∀ q ∈ rest, p.1 ≠ q.1)
    (nd1 : (ρ1.map (·.1)).Nodup) (loc : ∀ m1 : PySem.Str → Option Value, (∀ x v, (x, v) ∈ names.zip vs' → m1 x = some v) → LocR (below G' L fr) (PF h₀ fr) m1 ρ1 own1) (hw : wpB Γ body ρ1 Q (fun C y _ => X C y))
    (post : ∀ fl fv h' tk' m1 m' own' fr' ρ', (∀ x v, (x, v) ∈ names.zip vs' → m1 x = some v) → Same kp m1 m' → Inv (below G' L fr) h₀ s.heap.objs.size h' m' own' fr' (rest ++ (L, oL) :: aux) (rest.map (·.1) ++ L :: W) ρ' → FlR (below G' L fr) (PF h₀ fr') m' ρ' fl fv → Q fl ρ' → QQ (retOf fv) { s with heap := h', toks := tk' })
    (xpost : own1 = [] → rest = own → ∀ e h' tk' C y, EN h₀ l L G'.hold m own fr aux W ρ h' e C y → X C y → EE (.ref e) { s with heap := h', toks := tk' }) (hx : (own1 = [] ∧ rest = own) ∨ ∀ C y, ¬ X C y) :
    wpAny (model prog w) A (call (.ref f) vs) QQ EE s := by
  obtain ⟨name, params, dV, kV, doc, pm, ct, oc, an, od, osl, ho, hb⟩ := hbind
  have hk : names.zip vs' = names.zip vs' := rfl
  refine call_fn B I.F.keep ho D.code (by have := hr.depth; lia) hb (fun x hx => D.loc _ (List.of_mem_zip hx).1) D.cell (fun h1 n1 k1 => ?_) D.co D.gen D.kind
  have lk : ∀ x v, (x, v) ∈ names.zip vs' → (fun x => (names.zip vs').reverse.lookup x) x = some v := fun x v hm =>
    lookup_mem (by rw [List.map_reverse, zip_keys hlen.symm]; exact (List.reverse_perm _).nodup_iff.mpr D.nd) (List.mem_reverse.mpr hm)
  have J := enter_inv I hoL hnf n1 k1 hown hnd rest hrest hoff nd1 (loc _ lk)
  have hS : Stack (A.deeper (envOf qual scope s.heap.objs.size f cdv)) (below G' L fr) s.heap.objs.size (envOf qual scope s.heap.objs.size f cdv :: l) := by
    obtain ⟨env, r, e1, e2, e3⟩ := S.top
    refine ⟨?_, ⟨_, l, rfl, rfl, ?_⟩, fun env' he => ?_⟩
    · show A.frames.map _ = _
      rw [S.is]; rfl
    · rw [e1]
      show framesOf (env :: r) = L :: G'.outs
      unfold framesOf at e3 ⊢
      rw [List.filterMap_cons, e2, e3]
    · rcases List.mem_cons.mp he with rfl | he
      · exact ⟨by show scope.kind ≠ .module; rw [D.kind]; decide, _, rfl⟩
      · exact S.kinds env' he
  have H := R (hr.deeper _) hS (k.trans (like_below G' L fr))
  refine soundB H body (kp := kp) (s := { s with heap := h1, toks := s.toks + (names.zip vs').length }) ok hw J PassesOwn.leaving (fun fl fv h' tk' m' own' fr' ρ' km J' f' r q => post fl fv h' tk' _ m' own' fr' ρ' lk km J' r q) fun m' e h' tk' own' fr' ρ' C y he hX => ?_
  rcases hx with ⟨h1', h2'⟩ | hx
  · subst h1' h2'
    refine leave_exc (s := { s with heap := h', toks := tk' }) (led := rest ++ fr ++ aux) (L := L) (oL := oL) (m := m) hS.is rfl he.1 (fun p hp => ?_) (fun p hp e' => ?_) (by simp) hoL I.F.ns fun h2 X2 => xpost rfl rfl e h2 tk' C y ⟨X2, I.hold⟩ hX
    · have hold := he.2
      simp only [List.mem_append, List.mem_cons] at hp ⊢
      rcases hp with (hp | hp) | hp
      · exact .inr (.inl hp)
      · exact .inl (.inr (hold p hp))
      · exact .inr (.inr (.inr hp))
    · exact absurd (I.look_lt p hp) (e' ▸ Nat.lt_irrefl _)
  · exact (hx C y hX).elim

theorem slots_nodup {ts : List Tr} (h : names.length = ts.length) (nd : names.Nodup) : ((names.zip (ts.map Slot.val)).map (·.1)).Nodup := by
  rw [zip_keys (by simpa using h)]; exact nd

theorem contract_of (B : Base prog w K h₀) (D : Def K f qual body scope cdv names fill) (R : Reader prog w K G h₀ n qual scope f cdv Γ) (ok : okB scope [] body = true) {sp : Spec}
    (hsp : ∀ ts Q X, sp ts Q X → ∃ full, fill ts = some full ∧ wpB Γ body (names.zip (full.map Slot.val)) (endQ Q) (fun C y _ => X C y)) : Contract prog w G h₀ (n + 1) (.ref f) sp := by
  intro A G' l L m own fr aux W ρ s ts vs Q X QQ EE k hr S I d h q x
  obtain ⟨full, hf, hw⟩ := hsp ts Q X h
  obtain ⟨name, params, dV, kV, doc, pm, ct, oc, an, od, osl, ho, hb, _⟩ := D.there
  obtain ⟨vs', d', hl, hbind⟩ := hb G' _ ts vs full hf d
  obtain ⟨oL, hoL, hnf⟩ := ns_obj I
  refine run_fn (kp := []) (own1 := []) (rest := own) B D R ok k hr S I (by rw [d'.length, hl]) ⟨name, params, dV, kV, doc, pm, ct, oc, an, od, osl, ho, hbind s (B.X.keeps I.F.keep)⟩ hoL hnf (fun p hp => nomatch hp) List.nodup_nil (fun p hp => hp) (fun p hp => nomatch hp)
    (slots_nodup hl.symm D.nd) (fun m1 lk => loc_args (d'.like (like_below G' L fr)) hl.symm lk) hw (fun fl fv h' tk' m1 m' own' fr' ρ' lk km J r hq => ?_) (fun _ _ => x) (.inl ⟨rfl, rfl⟩)
  cases r with
  | next => exact q .none h' tk' fr' .none (leave_inv I hoL J J.hold).1 J.hold rfl hq
  | cont => exact hq.elim
  | ret dv => exact q _ h' tk' fr' _ (leave_inv I hoL J J.hold).1 J.hold (dv.like (like_below G' L fr).symm) hq
  | retm hl hm =>
    obtain ⟨own2, fr2, v, J2, hfr, hv, dv, _⟩ := J.freeze hl
    rw [hm] at hv
    cases hv
    exact q _ h' tk' fr2 _ (leave_inv I hoL J2 J2.hold).1 J2.hold (dv.like (like_below G' L fr).symm) hq

/-- a def whose answer is new -/
noncomputable def ContractN (prog : Program) (w : World) (G : Wo) (h₀ : Heap) (n : Nat) (v : Value) (sp : Spec) : Prop :=
  ∀ {A : Around} {G' : Wo} {l : List Env} {L : Addr} {m : PySem.Str → Option Value} {own fr aux : Led} {W : List Addr} {ρ : Loc} {s : Shared} {ts : List Tr} {vs : List Value} {Q : Tr → Prop} {X : Addr → PySem.Str → Prop} {QQ EE : Value → Shared → Prop}, G.Like G' → Room A n → Stack A G' L l → Inv G' h₀ L s.heap m own fr aux W ρ → DenL G' (PF h₀ fr) ts vs → sp ts Q X →
    CPost G' h₀ L m own fr aux W ρ s Q QQ → (∀ e h' tk' C y, EN h₀ l L G'.hold m own fr aux W ρ h' e C y → X C y → EE (.ref e) { s with heap := h', toks := tk' }) → wpAny (model prog w) A (call v vs) QQ EE s
noncomputable def endN (Q : Tr → Prop) : Fl → Loc → Prop
  | .retm _ t, _ => Q t
  | _, _ => False

theorem contractN_of (B : Base prog w K h₀) (D : Def K f qual body scope cdv names fill) (R : Reader prog w K G h₀ n qual scope f cdv Γ) (ok : okB scope [] body = true) {sp : Spec}
    (hsp : ∀ ts Q X, sp ts Q X → ∃ full, fill ts = some full ∧ wpB Γ body (names.zip (full.map Slot.val)) (endN Q) (fun C y _ => X C y)) : ContractN prog w G h₀ (n + 1) (.ref f) sp := by
  intro A G' l L m own fr aux W ρ s ts vs Q X QQ EE k hr S I d h q x
  obtain ⟨full, hf, hw⟩ := hsp ts Q X h
  obtain ⟨name, params, dV, kV, doc, pm, ct, oc, an, od, osl, ho, hb, _⟩ := D.there
  obtain ⟨vs', d', hl, hbind⟩ := hb G' _ ts vs full hf d
  obtain ⟨oL, hoL, hnf⟩ := ns_obj I
  refine run_fn (kp := []) (own1 := []) (rest := own) B D R ok k hr S I (by rw [d'.length, hl]) ⟨name, params, dV, kV, doc, pm, ct, oc, an, od, osl, ho, hbind s (B.X.keeps I.F.keep)⟩ hoL hnf (fun p hp => nomatch hp) List.nodup_nil (fun p hp => hp) (fun p hp => nomatch hp)
    (slots_nodup hl.symm D.nd) (fun m1 lk => loc_args (d'.like (like_below G' L fr)) hl.symm lk) hw (fun fl fv h' tk' m1 m' own' fr' ρ' lk km J r hq => ?_) (fun _ _ => x) (.inl ⟨rfl, rfl⟩)
  cases r with
  | next => exact hq.elim
  | cont => exact hq.elim
  | ret dv => exact hq.elim
  | retm hl hm =>
    obtain ⟨v, c, hv, hc, hcm, hcn⟩ := J.cell hl
    rw [hm] at hv
    cases hv
    obtain ⟨I', fr1⟩ := leave_inv I hoL J J.hold
    exact q _ h' tk' fr' _ c I' J.hold (hc.like (like_below G' L fr).symm) (fr1 c hcm hcn) hq

/-- a def that turns its first argument -/
noncomputable def ContractM (prog : Program) (w : World) (G : Wo) (h₀ : Heap) (n : Nat) (v : Value) (sp : MSpec) : Prop :=
  ∀ {A : Around} {G' : Wo} {l : List Env} {L : Addr} {m : PySem.Str → Option Value} {own fr aux : Led} {W : List Addr} {ρ : Loc} {s : Shared} {x : PySem.Str} {t : Tr} {vx : Value} {ts : List Tr} {vs : List Value} {Q : Tr → Prop} {QQ EE : Value → Shared → Prop}, G.Like G' → Room A n → Stack A G' L l → Inv G' h₀ L s.heap m own fr aux W ρ →
    look x ρ = some (.mu t) → m x = some vx → DenL G' (PF h₀ fr) ts vs → sp t ts Q →
    (∀ h' tk' own' fr' t', Inv G' h₀ L h' m own' fr' aux W (upd x (.mu t') ρ) → (∀ p ∈ fr, p ∈ fr') → Q t' → QQ .none { s with heap := h', toks := tk' }) → wpAny (model prog w) A (call v (vx :: vs)) QQ EE s

noncomputable def endM (p : PySem.Str) (Q : Tr → Prop) : Fl → Loc → Prop
  | .next, ρ => ∃ t', look p ρ = some (.mu t') ∧ Q t'
  | _, _ => False
theorem contractM_of {p0 : PySem.Str} {names' : List PySem.Str} (B : Base prog w K h₀) (D : Def K f qual body scope cdv (p0 :: names') fill) (R : Reader prog w K G h₀ n qual scope f cdv Γ) (ok : okB scope [p0] body = true) {sp : MSpec}
    (hsp : ∀ t ts Q, sp t ts Q → wpB Γ body ((p0, .mu t) :: names'.zip (ts.map Slot.val)) (endM p0 Q) (fun _ _ _ => False))
    (hlen : ∀ t ts Q, sp t ts Q → ts.length = names'.length) : ContractM prog w G h₀ (n + 1) (.ref f) sp := by
  intro A G' l L m own fr aux W ρ s x t vx ts vs Q QQ EE k hr S I hl hvx d h q
  have hw := hsp t ts Q h
  have hln := hlen t ts Q h
  obtain ⟨name, params, dV, kV, doc, pm, ct, oc, an, od, osl, ho, _, hb⟩ := D.there
  obtain ⟨oL, hoL, hnf⟩ := ns_obj I
  obtain ⟨o1, c, o2, h1, _, h3, h4⟩ := I.S.loc.at x I.S.nd
  obtain ⟨v, hv, hs⟩ := h3 _ hl
  rw [hvx] at hv
  cases hv
  cases hs with
  | mu hc =>
    subst h1
    have nd0 := I.S.ndo
    rw [List.map_append, List.map_append, List.append_assoc] at nd0
    obtain ⟨n1, n2, n3⟩ := List.nodup_append.mp nd0
    obtain ⟨n4, n5, n6⟩ := List.nodup_append.mp n2
    have hcn : (c.map (·.1)).Nodup := n4
    have hoff : ∀ p ∈ c, ∀ r ∈ o1 ++ o2, p.1 ≠ r.1 := fun p hp r hr e => by
      rcases List.mem_append.mp hr with hr | hr
      · exact n3 r.1 (List.mem_map_of_mem hr) p.1 (List.mem_append_left _ (List.mem_map_of_mem hp)) e.symm
      · exact n6 p.1 (List.mem_map_of_mem hp) r.1 (List.mem_map_of_mem hr) e
    have hdl := d.length
    have hlv : (vx :: vs).length = (p0 :: names').length := by rw [List.length_cons, List.length_cons, hdl, hln]
    refine run_fn (kp := [p0]) (own1 := c) (rest := o1 ++ o2) (vs' := vx :: vs) B D R ok k hr S I hlv ⟨name, params, dV, kV, doc, pm, ct, oc, an, od, osl, ho, hb _ hlv s (B.X.keeps I.F.keep)⟩ hoL hnf (fun p hp => by simp [hp]) hcn (fun p hp => by
      rcases List.mem_append.mp hp with hp | hp <;> simp [hp]) hoff (ρ1 := (p0, .mu t) :: names'.zip (ts.map Slot.val)) ?_ (fun m1 lk => ?_) hw (fun fl fv h' tk' m1 m' own' fr' ρ' lk km J r hq => ?_) (fun _ _ _ _ _ _ _ _ hX => hX.elim) (.inr fun _ _ hX => hX)
    · have := D.nd
      rw [List.map_cons, zip_keys (by simpa using hln.symm)]
      exact this
    · have := LocR.cons (x := p0) (m := m1) (lk p0 vx (by simp)) (.mu (hc.like (like_below G' L fr))) (loc_args (names := names') (d.like (like_below G' L fr)) hln.symm fun y u hy => lk y u (by simp [hy]))
      simpa using this
    · cases r with
      | cont => exact hq.elim
      | ret dv => exact hq.elim
      | retm _ _ => exact hq.elim
      | next =>
        obtain ⟨t', hl', hq'⟩ := hq
        obtain ⟨v', c', hv', hc', hcm', hcn'⟩ := J.cell hl'
        rw [km p0 (.head _), lk p0 vx (by simp)] at hv'
        cases hv'
        have offo : ∀ p ∈ own' ++ fr', ∀ r ∈ o1 ++ o2, p.1 ≠ r.1 := fun p hp r hr e => J.S.offW p hp (by rw [e]; exact List.mem_append_left _ (List.mem_map_of_mem hr))
        have offL : ∀ p ∈ own' ++ fr', p.1 ≠ L := fun p hp e => J.S.offW p hp (by rw [e]; exact List.mem_append_right _ (.head _))
        have offW : ∀ p ∈ own' ++ fr', p.1 ∉ W := fun p hp e => J.S.offW p hp (List.mem_append_right _ (.tail _ e))
        have keepL : h'.get? L = some oL := (J.N (L, oL) (by simp)).1
        have sub : ∀ p ∈ o1 ++ o2, p ∈ o1 ++ c ++ o2 := fun p hp => by
          rcases List.mem_append.mp hp with hp | hp <;> simp [hp]
        have parts : ∀ p, p ∈ o1 ++ c' ++ o2 → p ∈ c' ∨ p ∈ o1 ++ o2 := fun p hp => by
          simp only [List.mem_append] at hp ⊢
          rcases hp with (a | a) | a <;> simp [a]
        refine q h' tk' (o1 ++ c' ++ o2) fr' t' ⟨⟨I.F.ns.at' fun o e => by rw [hoL] at e; cases e; exact keepL, J.F.keep, I.F.above⟩, fun p hp => ?_, ⟨h4 (PF h₀ fr') m (.mu t') vx c' (PF.mono J.hold) (fun _ _ => rfl) hvx (.mu (hc'.like (like_below G' L fr).symm)), upd_nodup _ _ _ I.S.nd, ?_, fun p hp r hr e => ?_, fun p hp => ?_⟩, I.live, I.cover, I.outs, fun p hp => J.hold p (I.hold p hp)⟩ J.hold hq'
        · rcases List.mem_append.mp hp with hp | hp
          · rcases List.mem_append.mp hp with hp | hp
            · rcases parts p hp with hp | hp
              · have := J.N p (by simp [hcm' p hp])
                exact ⟨this.1, offL p (List.mem_append_left _ (hcm' p hp)), this.2.2⟩
              · exact ⟨(J.N p (List.mem_append_right _ (List.mem_append_left _ hp))).1, (I.N p (List.mem_append_left _ (List.mem_append_left _ (sub p hp)))).2⟩
            · have := J.N p (by simp [hp])
              exact ⟨this.1, offL p (List.mem_append_right _ hp), this.2.2⟩
          · exact ⟨(J.N p (by simp [hp])).1, (I.N p (List.mem_append_right _ hp)).2⟩
        · rw [List.map_append, List.map_append, List.append_assoc]
          refine List.nodup_append.mpr ⟨n1, List.nodup_append.mpr ⟨hcn', n5, fun a ha b hb => ?_⟩, fun a ha b hb => ?_⟩
          · obtain ⟨p, hp, rfl⟩ := List.mem_map.mp ha
            obtain ⟨r, hr, rfl⟩ := List.mem_map.mp hb
            exact offo p (List.mem_append_left _ (hcm' p hp)) r (List.mem_append_right _ hr)
          · rcases List.mem_append.mp hb with hb | hb
            · obtain ⟨p, hp, rfl⟩ := List.mem_map.mp hb
              obtain ⟨r, hr, rfl⟩ := List.mem_map.mp ha
              exact (offo p (List.mem_append_left _ (hcm' p hp)) r (List.mem_append_left _ hr)).symm
            · exact n3 a ha b (List.mem_append_right _ hb)
        · rcases parts p hp with hp | hp
          · exact J.S.off p (hcm' p hp) r hr e
          · exact offo r (List.mem_append_right _ hr) p hp e.symm
        · rcases List.mem_append.mp hp with hp | hp
          · rcases parts p hp with hp | hp
            · exact offW p (List.mem_append_left _ (hcm' p hp))
            · exact I.S.offW p (List.mem_append_left _ (sub p hp))
          · exact offW p (List.mem_append_right _ hp)
end
end Mine
end
section
open PySem PySem.W
open Sem (wp)
set_option Elab.async false
namespace Mine
set_option tactic.hygienic false
set_option maxRecDepth 100000
set_option linter.unusedVariables false
set_option linter.unusedSectionVars false

section
variable {prog : Program} {w : World} {A : Around} {E : Value → Shared → Prop} {R : Result → Shared → Prop} {h : Heap} {g : Array GenState} {d : Drawn} {t : Nat} {os : OsState}
variable {nm q : PySem.Str} {C N : Addr} {bs bm : List Value} {hdct : Bool} {sn : List PySem.Str} {sub : List Value} {ab : Bool} {col : Option Bool} {dd : Option Addr} {k0 k1 k2 k3 k5 : Option Value} {bmB : List Value}

/-- the class stands over Exception -/
structure OverExc (bm : List Value) : Prop where
  e : bm.contains (.type "Exception") = true
  b : bm.contains (.type "BaseException") = true
  noA : bm.contains (.type "AttributeError") = false
  noN : bm.contains (.type "NameError") = false

theorem exc_check_new (O : OverExc bm) {M : Model} {rest : List Value} {Q : Unit → Shared → Prop} (hC : h.get? C = some (excClassObj nm q C N bs bm hdct sn sub ab col dd k0 k1 k2 k3 k5 "Exception.__new__"))
    (hq : Q () ⟨h, g, d, t, os⟩) : wpAny M A (checkBuiltinCall "Exception.__new__" ⟨.ref C :: rest, []⟩) Q E ⟨h, g, d, t, os⟩ := by
  have F := PySem.F.excBase_Exception
  have hcont : (Value.ref C :: bm).contains (.type "Exception") = true := by rw [List.contains_cons, O.e, Bool.or_true]
  have hstar := F.noStar
  simp only [checkBuiltinCall, F.newKind, F.newSplit, F.newRow]
  repeat (first | refine wpAny_loadPart_at hC ?_ | (refine wpAny_isSubtype_exc hC ?_; rw [hcont]) | refine wpAny_staticBase_exc hC ?_ | refine wpAny_madeBy_exc hC ?_ | simp only [bne_self_eq_false, Bool.false_eq_true, if_false] | wp_step)
  exact hq

theorem exc_new (O : OverExc bm) {rest : List Value} (hC : h.get? C = some (excClassObj nm q C N bs bm hdct sn sub ab col dd k0 k1 k2 k3 k5 "Exception.__new__"))
    (hq : R (.ok (.ret (.ref (h.objs.size + 1)))) ⟨(h.push { cls := .type "tuple", data := .seq rest.toArray }).push
      { cls := .ref C, data := .fields #[.ref h.objs.size, .none, .none, .none, .bool false, .none] }, g, d, t, os⟩) (hrest : rest.length ≤ sizeLine) :
    codeAny (model prog w) A (.builtin "Exception.__new__" ⟨.ref C :: rest, []⟩) R ⟨h, g, d, t, os⟩ := by
  have F := PySem.F.excBase_Exception
  have hends := F.ends
  have hcB : (Value.ref C :: bm).contains (.type "Exception") = true := by rw [List.contains_cons, O.e, Bool.or_true]
  have hcA : (Value.ref C :: bm).contains (.type "AttributeError") = false := by rw [List.contains_cons, O.noA]; rfl
  have hcN : (Value.ref C :: bm).contains (.type "NameError") = false := by rw [List.contains_cons, O.noN]; rfl
  refine codeAny_builtinAt F.entry ?_
  unfold Builtin.«BaseException.__new__»
  refine wpAt_bind ?_
  show wpAt _ _ _ (stack >>= _) _ _ _
  refine wpAt_bind (wpAt_stack fun p below => wpAt_of_wpAny ?_)
  wp_walk
  refine wpAt_of_wpAny ?_
  rw [F.owner]
  repeat (first | with_reducible refine wpAny_madeHere_exc F.canon hC ?_ | with_reducible refine wpAny_loadPart_at hC ?_ | (with_reducible refine wpAny_isSubtype_exc hC ?_; first | rw [hcB] | rw [hcA] | rw [hcN]) | wp_step)
  show R _ _
  rw [Heap.size_push]
  exact hq

theorem exc_type_call (O : OverExc bm) {rest : List Value} {fI : Addr} {oI : Obj} {Q : PySem.Fin → Shared → Prop}
    (hC : h.get? C = some (excClassObj nm q C N bs bm hdct sn sub ab col dd k0 k1 k2 k3 k5 "Exception.__new__")) (hi : Looks (model prog w) h (typeLookup (.ref C) "__init__") (some (.ref fI)))
    (hfI : h.get? fI = some oI) (hfc : oI.cls = .type "function")
    (hq : ∀ h' e, Heap.MadeExcOf h h' e (.ref C) rest →
      wpAny (model prog w) A (call (.ref fI) (.ref e :: rest)) (fun r s' => r = .none ∧ Q (.done (.ret (.ref e))) s') E ⟨h', g, d, t, os⟩) (hrest : rest.length ≤ sizeLine) :
    wpAny (model prog w) A (Builtin.«type.__call__» ⟨.ref C :: rest, []⟩) Q E ⟨h, g, d, t, os⟩ := by
  have F := PySem.F.excBase_Exception
  repeat (first | with_reducible refine wpAny_loadPart_at hC ?_ | with_reducible refine wpAny_madeBy_exc hC ?_ | wp_step)
  refine codeAny_call_builtin_code (Code.quiet_builtin _ F.quiet) (exc_check_new O hC ?_)
  refine exc_new O hC ?_ hrest
  show wpAny _ _ _ _ _ _
  have hC₁ := Heap.get?_push_of_some { cls := .ref C, data := .fields #[.ref h.objs.size, .none, .none, .none, .bool false, .none] }
    (Heap.get?_push_of_some { cls := .type "tuple", data := .seq rest.toArray } hC)
  have hfI₁ := Heap.get?_push_of_some { cls := .ref C, data := .fields #[.ref h.objs.size, .none, .none, .none, .bool false, .none] }
    (Heap.get?_push_of_some { cls := .type "tuple", data := .seq rest.toArray } hfI)
  have hget : ((h.push { cls := .type "tuple", data := .seq rest.toArray }).push
      { cls := .ref C, data := .fields #[.ref h.objs.size, .none, .none, .none, .bool false, .none] }).get? (h.objs.size + 1) = some
      { cls := .ref C, data := .fields #[.ref h.objs.size, .none, .none, .none, .bool false, .none] } := by heap_get
  have hcC : (Value.ref C :: bm).contains (.ref C) = true := by simp
  unfold isInstance
  repeat (first | with_reducible refine wpAny_loadPart_at hget ?_ | (with_reducible refine wpAny_isSubtype_exc hC₁ ?_; rw [hcC]) | wp_step)
  show wpAny _ _ (typeLookup (.ref C) _) _ _ _
  refine hi _ _ _ _ (fun b o e => Heap.get?_push_of_some _ (Heap.get?_push_of_some _ e)) ?_
  refine wpAny_holding (wpAny_bind ?_)
  unfold bindSpecial
  refine wpAny_bind (wpAny_typeOf (T := "function") ⟨_, hfI₁, hfc⟩ ?_)
  rw [if_pos (by decide)]
  refine wpAny_pure (wpAny_bind (wpAny_mono (hq _ (h.objs.size + 1) ⟨fun b o hb => Heap.get?_push_of_some _ (Heap.get?_push_of_some _ hb), Heap.get?_none_of_le (Nat.le_succ _), h.objs.size, hget, Heap.get?_none_of_le (Nat.le_refl _), ?_⟩) (fun r s' hr => ?_) fun _ _ x => x))
  · exact Heap.get?_push_of_some _ (Heap.get?_push_at rfl rfl)
  · obtain ⟨rfl, hQ⟩ := hr
    wp_walk
    exact hQ

theorem exc_call (O : OverExc bm) {rest : List Value} {fI : Addr} {oI : Obj} {Q : Value → Shared → Prop}
    (hC : h.get? C = some (excClassObj nm q C N bs bm hdct sn sub ab col dd k0 k1 k2 k3 k5 "Exception.__new__")) (hi : Looks (model prog w) h (typeLookup (.ref C) "__init__") (some (.ref fI)))
    (hfI : h.get? fI = some oI) (hfc : oI.cls = .type "function")
    (hq : ∀ h' e, Heap.MadeExcOf h h' e (.ref C) rest →
      wpAny (model prog w) (A.under (.builtin "type.__call__" ⟨.ref C :: rest, []⟩)) (call (.ref fI) (.ref e :: rest)) (fun r s' => r = .none ∧ Q (.ref e) s') E ⟨h', g, d, t, os⟩) (hrest : rest.length ≤ sizeLine) :
    wpAny (model prog w) A (call (.ref C) rest) Q E ⟨h, g, d, t, os⟩ := by
  have F := PySem.F.excBase_Exception
  have f1 := tc_lookup
  have f2 := tc_bind (.ref C)
  have hT : (⟨h, g, d, t, os⟩ : Shared).TypeIs (.ref C) "type" := ⟨_, hC, rfl⟩
  refine wpAny_call (codeAny_of_tree ?_)
  show wpAny _ _ (callAny (.ref C) _) _ _ _
  repeat (any_goals (first | assumption | with_reducible refine wpAny_loadPart_at hC ?_ | wp_step))
  refine ⟨rfl, ?_⟩
  refine codeAny_call_builtin_at (Code.quiet_builtin _ (by decide +kernel)) entry_typeCall (wpAny_check_type_call_sub hC (exc_type_call O hC hi hfI hfc (fun h' e hm => ?_) hrest))
  exact hq h' e hm
end
end Mine
end
section
open PySem PySem.W PySem.Builtin PySem.Builtin.ObjectAttr
set_option Elab.async false
namespace Mine
set_option tactic.hygienic false
set_option maxRecDepth 100000
set_option linter.unusedVariables false
set_option linter.unusedSectionVars false

/-- an exception class of the program, as it is read -/
structure ExcK (K : Frag) (C : Addr) : Prop where
  cls : ∃ cd, clsIn K C = some cd ∧ cd.hasDict = true ∧ ∀ self : Value, refuseLoop self "__setattr__" cd.mro = pure ()
  obj : mroIn K C (.type "object") = some true
  be : mroIn K C (.type "BaseException") = some true
  sa : findIn K (.ref C) "__setattr__" = some (some (.builtin "object.__setattr__"))
  ga : findIn K (.ref C) "__getattribute__" = some (some (.builtin "BaseException.__getattribute__"))
  gt : findIn K (.ref C) "__getattr__" = some none
  why : findIn K (.ref C) "why" = some none
  at_ : findIn K (.ref C) "at" = some none

section
variable {prog : Program} {w : World} {A : Around} {E : Value → Shared → Prop} {R : Result → Shared → Prop} {s : Shared} {K : Frag} {C x : Addr} {ox : Obj} {od : Option Obj} {name : PySem.Str} {tk : Tok} {v : Value}

theorem exc_osa (X : K.In s.heap) (I : InstAt s.heap x ox C od) (k : ExcK K C) (ha : findIn K (.ref C) name = some none)
    (h : wpAny (model prog w) A.in1 (storeInOwnDict (.ref x) (.ref C) (.str name tk) name v false)
      (fun fin s' => match fin with | .done f => R (.ok f) s' | .again c' => c'.quiet = true ∧ codeAny (model prog w) A c' R s') (fun e s' => R (.error e) s') s) :
    codeAny (model prog w) A (.call (.builtin "object.__setattr__") ⟨[.ref x, .str name tk, v], []⟩) R s := by
  have SF := PySem.F.store_object
  obtain ⟨cd, hc, _, hr⟩ := k.cls
  have sub : Looks (model prog w) s.heap (isInstance (.ref x) (.type "object")) true := I.type.andThen (looks_mroIn X k.obj)
  refine codeAny_call_builtin SF.slot.plain SF.entry (@check_slot (model prog w) _ _ s "object.__setattr__" "object" "__setattr__" (.ref x) [.str name tk, v] [] _ SF.kind SF.split sub (SF.args (.ref x) (.str name tk) v) ?_)
  have hm : Looks (model prog w) s.heap (mroOf (.ref C)) cd.mro := (looks_clsIn X hc).andThen .now
  have L3 : Looks (model prog w) s.heap (storeTaker? none) none := .now
  rw [osa_eq, refuse_eq]
  refine wpAny_bind (wpAny_bind (I.type.here (wpAny_bind (hm.here ?_))))
  rw [hr]
  refine wpAny_pure (wpAny_bind (I.type.here (wpAny_bind ((looks_findIn X ha).here (wpAny_bind (L3.here ?_))))))
  exact h

/-- the first write makes the object's own dictionary -/
theorem exc_set1 {vs : Array Value} {sl : Array (Option Value)} {Q : Unit → Shared → Prop} (X : K.In s.heap) (he : s.heap.get? x = some { cls := .ref C, dict := none, data := .fields vs, slots := sl }) (k : ExcK K C) (ha : findIn K (.ref C) name = some none)
    (h : ∀ h' tk' t hsh d n, h'.get? x = some { cls := .ref C, dict := some d, data := .fields vs, slots := sl } → h'.get? d = some (dictOf [⟨hsh, .str name t, v⟩] n) → s.heap.get? d = none → (∀ b o, b ≠ x → s.heap.get? b = some o → h'.get? b = some o) → Q () { s with heap := h', toks := tk' }) :
    wpAny (model prog w) A (setAttr (.ref x) name v) Q E s := by
  have I : InstAt s.heap x { cls := .ref C, dict := none, data := .fields vs, slots := sl } C none := ⟨he, rfl, rfl, trivial⟩
  refine set_plain X I k.sa (exc_osa (s := { s with toks := s.toks + 1 }) X I k ha ?_)
  obtain ⟨cd, hc, hd, _⟩ := k.cls
  refine wpAny_bind (wpAny_pure (wpAny_bind (wpAny_bind (wpAny_loadPart he (wpAny_bind (looks_clsIn X hc _ _ _ _ (fun _ _ e => e) ?_))))))
  dsimp only
  rw [hd]
  have hxs : s.heap.objs.size ≠ x := Nat.ne_of_gt (Heap.lt_size he)
  have he1 : (s.heap.push { cls := .type "dict", data := .dict #[] }).get? x = some { cls := .ref C, dict := none, data := .fields vs, slots := sl } := Heap.get?_push_of_some _ he
  rw [if_neg (by decide)]
  rw [if_neg (by simp [typeHasDict])]
  refine wpAny_bind (wpAny_alloc ?_)
  refine wpAny_bind (wpAny_update he1 ?_)
  unfold dictMade
  refine wpAny_pure ?_
  have he2 : ((s.heap.push { cls := .type "dict", data := .dict #[] }).update x fun o => { cls := o.cls, dict := some s.heap.objs.size, data := o.data, slots := o.slots }).get? x = some { cls := .ref C, dict := some s.heap.objs.size, data := .fields vs, slots := sl } := Heap.get?_update_self _ he1 rfl
  have hd2 : ((s.heap.push { cls := .type "dict", data := .dict #[] }).update x fun o => { cls := o.cls, dict := some s.heap.objs.size, data := o.data, slots := o.slots }).get? s.heap.objs.size = some (dictOf [] 0) :=
    (Heap.get?_update_ne _ _ _ _ hxs).trans (Heap.get?_push_size _ rfl)
  show wpAny _ _ (storeInDict s.heap.objs.size (.str name _) name v) _ _ _
  unfold storeInDict newKeyGuard nsSet
  refine wpAny_bind (wpAny_pure (wpAny_bind ?_))
  refine wpAny_bind (wpAny_bind (wpAny_askSetting (wpAny_pure (wpAny_bind (wpAny_mkText (wpAny_bind (wpAny_loadPart hd2 ?_)))))))
  dsimp only
  rw [aRefKeyMayBeTheName_at, show (!(([] : List DictEntry).toArray).any (·.key.isStr name) && (([] : List DictEntry).toArray).any (·.refKey)) = false from by simp]
  refine wpAny_updatePart hd2 ?_
  have e3 := Heap.get?_update_self (Obj.putName name (PyData.keyHash w.params name) (.str name (s.toks + 1)) v) hd2 (by rw [putName_dict]; rfl)
  rw [putName_dict] at e3
  refine wpAny_bind (wpAny_lookBehind e3 (pastItsLine_dict (by simp [putL, sizeLine_eq])) ?_)
  refine wpAny_pure (h _ _ _ _ _ _ ?_ e3 (Heap.get?_none_of_le (Nat.le_refl _)) fun b o hb hbo => ?_)
  · rw [Heap.get?_update_ne _ _ _ _ hxs.symm]; exact he2
  · rw [Heap.get?_update_ne _ _ _ _ (Nat.ne_of_lt (Heap.lt_size hbo)), Heap.get?_update_ne _ _ _ _ hb]
    exact Heap.get?_push_of_some _ hbo

/-- a further write -/
theorem exc_set2 {vs : Array Value} {sl : Array (Option Value)} {d : Addr} {es : List DictEntry} {n : Nat} {Q : Unit → Shared → Prop} (X : K.In s.heap) (he : s.heap.get? x = some { cls := .ref C, dict := some d, data := .fields vs, slots := sl }) (hdd : s.heap.get? d = some (dictOf es n))
    (hl : (!(es.toArray).any (·.key.isStr name) && (es.toArray).any (·.refKey)) = false) (hz : (putL name (PyData.keyHash w.params name) (.str name (s.toks + 1)) v es).length ≤ 1000) (k : ExcK K C) (ha : findIn K (.ref C) name = some none)
    (h : ∀ h' tk' t hsh n', h'.get? x = some { cls := .ref C, dict := some d, data := .fields vs, slots := sl } → h'.get? d = some (dictOf (putL name hsh (.str name t) v es) n') → (∀ b o, b ≠ d → s.heap.get? b = some o → h'.get? b = some o) → Q () { s with heap := h', toks := tk' }) :
    wpAny (model prog w) A (setAttr (.ref x) name v) Q E s := by
  have I : InstAt s.heap x { cls := .ref C, dict := some d, data := .fields vs, slots := sl } C (some (dictOf es n)) := ⟨he, rfl, rfl, hdd⟩
  refine set_plain X I k.sa (exc_osa (s := { s with toks := s.toks + 1 }) X I k ha ?_)
  obtain ⟨cd, hc, hd, _⟩ := k.cls
  refine wpAny_bind (wpAny_pure (wpAny_bind (wpAny_bind (wpAny_loadPart he (wpAny_bind (looks_clsIn X hc _ _ _ _ (fun _ _ e => e) ?_))))))
  dsimp only
  rw [hd]
  rw [if_neg (by decide)]
  refine wpAny_pure ?_
  show wpAny _ _ (storeInDict d (.str name _) name v) _ _ _
  unfold storeInDict newKeyGuard nsSet
  refine wpAny_bind (wpAny_pure (wpAny_bind ?_))
  refine wpAny_bind (wpAny_bind (wpAny_askSetting (wpAny_pure (wpAny_bind (wpAny_mkText (wpAny_bind (wpAny_loadPart hdd ?_)))))))
  dsimp only
  rw [aRefKeyMayBeTheName_at, hl]
  refine wpAny_updatePart hdd ?_
  have e3 := Heap.get?_update_self (Obj.putName name (PyData.keyHash w.params name) (.str name (s.toks + 1)) v) hdd (by rw [putName_dict]; rfl)
  rw [putName_dict] at e3
  refine wpAny_bind (wpAny_lookBehind e3 (pastItsLine_dict (by rw [List.size_toArray, sizeLine_eq]; lia)) ?_)
  have hxd : x ≠ d := fun z => by rw [z, hdd] at he; cases he
  refine wpAny_pure (h _ _ _ _ _ ?_ e3 fun b o hb hbo => ?_)
  · rw [Heap.get?_update_ne _ _ _ _ hxd]; exact he
  · rw [Heap.get?_update_ne _ _ _ _ hb]; exact hbo

/-- Exception.__init__(self, why) -/
theorem exc_binit {nm q : PySem.Str} {N : Addr} {bs bm : List Value} {hdct : Bool} {sn : List PySem.Str} {sub : List Value} {ab : Bool} {col : Option Bool} {dd : Option Addr} {k0 k1 k2 k3 k5 : Option Value} {dx : Option Addr} {T0 : Addr} {sl : Array (Option Value)} {Q : Value → Shared → Prop} (O : OverExc bm)
    (hC : s.heap.get? C = some (excClassObj nm q C N bs bm hdct sn sub ab col dd k0 k1 k2 k3 k5 "Exception.__new__")) (he : s.heap.get? x = some { cls := .ref C, dict := dx, data := .fields #[.ref T0, .none, .none, .none, .bool false, .none], slots := sl }) 
    (h : ∀ h' tk' T, h'.get? x = some { cls := .ref C, dict := dx, data := .fields #[.ref T, .none, .none, .none, .bool false, .none], slots := sl } → (∀ b o, b ≠ x → s.heap.get? b = some o → h'.get? b = some o) → Q .none { s with heap := h', toks := tk' }) :
    wpAny (model prog w) A (call (.builtin "Exception.__init__") [.ref x, v]) Q E s := by
  have F := PySem.F.excBase_Exception
  have hcB : (Value.ref C :: bm).contains (.type "Exception") = true := by rw [List.contains_cons, O.e, Bool.or_true]
  have hshort := F.noStar
  obtain ⟨hh, g, d, t, os⟩ := s
  dsimp only at hC he h
  refine wpAny_call (codeAny_call_builtin F.init.plain F.initEntry ?_)
  simp only [checkBuiltinCall, F.initKind, F.initSplit, F.initRow]
  repeat (first | (with_reducible refine wpAny_loadPart_at he ?_; dsimp only) | with_reducible refine wpAny_loadPart_at hC ?_ | (with_reducible refine wpAny_isSubtype_exc hC ?_; rw [hcB]) | wp_step)
  refine h _ _ hh.objs.size ?_ fun b o hb hbo => ?_
  · rw [Heap.get?_update_self _ (Heap.get?_push_of_some _ he) rfl]
    rfl
  · rw [Heap.get?_update_ne _ _ _ _ hb]
    exact Heap.get?_push_of_some _ hbo

theorem exc_get {es : List DictEntry} {n : Nat} {y : PySem.Str} {t0 : Tok} {expr : Bool} {Q : Value → Shared → Prop} (X : K.In s.heap) (I : InstAt s.heap x ox C (some (dictOf es n))) (k : ExcK K C) (hl : getL "why" es = some (some (.str y t0)))
    (h : ∀ tk, Q (.str y t0) { s with toks := tk }) : wpAny (model prog w) A (getAttr (.ref x) "why" expr) Q E s := by
  obtain ⟨hh, g, d, t, os⟩ := s
  dsimp only at X I h
  have L0 := I.type (M := model prog w)
  have L1 := looks_findIn (M := model prog w) X k.ga
  unfold getAttr getAttrBy
  refine wpAny_bind (wpAny_mkText (wpAny_holding (wpAny_bind (L0 _ _ _ _ (fun _ _ e => e) (wpAny_bind (L1 _ _ _ _ (fun _ _ e => e) ?_))))))
  dsimp only
  rw [if_neg (by simp [onTheHeap])]
  unfold getAttrByItsOwn
  have SL := PySem.F.attr_Exception.ga
  have L2 := looks_findIn (M := model prog w) X k.gt
  unfold hookBefore
  rw [if_pos (by rfl)]
  refine wpAny_bind (L2 _ _ _ _ (fun _ _ e => e) ?_)
  unfold callGetattribute
  rw [if_neg (by cases expr <;> simp [onTheHeap])]
  refine wpAny_bind (wpAny_attempt (wpAny_holding ?_))
  unfold boundAndCalled
  rw [SL.bind]
  refine wpAny_bind (wpAny_pure ?_)
  have sub : Looks (model prog w) hh (isInstance (.ref x) (.type "BaseException")) true := I.type.andThen (looks_mroIn X k.be)
  have hf : findObj K C (some (dictOf es n)) "why" = some (.value (.str y t0)) := by
    obtain ⟨cd, hc, hdd, _⟩ := k.cls
    exact findObj_own (by unfold hasDictIn; rw [hc]; exact hdd) k.why rfl hl
  have L3 := looks_find (M := model prog w) X I hf
  refine wpAny_call (codeAny_call_builtin SL.plain PySem.F.entry_bexc_ga (@check_slot (model prog w) _ _ ⟨hh, g, d, t + 1, os⟩ "BaseException.__getattribute__" "BaseException" "__getattribute__" (.ref x) [.str "why" t] [] _ (by decide +kernel) (by decide +kernel) sub (PySem.F.args_bexc_ga _ _) ?_))
  unfold Builtin.«object.__getattribute__»
  refine wpAny_bind (wpAny_pure (wpAny_bind (wpAny_pure (wpAny_bind (L0 _ _ _ _ (fun _ _ e => e) (wpAny_bind (L3 _ _ _ _ (fun _ _ e => e) ?_)))))))
  refine wpAny_pure ?_
  show wpAny _ _ (handedOut (.str y t0)) _ _ _
  rw [handedOut_of rfl]
  exact wpAny_pure (h _)
end
end Mine
end
section
open PySem PySem.W PyProof.Rows
set_option Elab.async false
namespace Mine
set_option tactic.hygienic false
set_option maxRecDepth 100000
set_option linter.unusedVariables false
set_option linter.unusedSectionVars false

noncomputable def initBody (ps : Nat → Pos) (k : Nat) : List Stmt :=
  [.Expr (.Call (.Attribute (.Name "Exception" (ps 0)) "__init__" (ps 1)) [.Name "self" (ps 2), .Name "why" (ps 3)] [] (ps 4)) (ps 5),
   .Assign [.Attribute (.Name "self" (ps 6)) "why" (ps 7)] (.Name "why" (ps 8)) (ps 9),
   .Assign [.Attribute (.Name "self" (ps 10)) "at" (ps 11)] (.UnaryOp .USub (.Constant (.int 1) k (ps 12)) (ps 13)) (ps 14)]

/-- what a class object of an exception holds -/
structure ECls where
  nm : PySem.Str
  q : PySem.Str
  N : Addr
  bs : List Value
  bm : List Value
  hdct : Bool
  sn : List PySem.Str
  sub : List Value
  ab : Bool
  col : Option Bool
  dd : Option Addr
  k0 : Option Value
  k1 : Option Value
  k2 : Option Value
  k3 : Option Value
  k5 : Option Value
noncomputable abbrev ECls.obj (x : ECls) (C : Addr) : Obj := excClassObj x.nm x.q C x.N x.bs x.bm x.hdct x.sn x.sub x.ab x.col x.dd x.k0 x.k1 x.k2 x.k3 x.k5 "Exception.__new__"
/-- the program's own exception classes, as the heap holds them -/
structure ExcCls (K : Frag) (C fI : Addr) : Prop where
  k : ExcK K C
  obj : ∃ x : ECls, K.lookup C = some (x.obj C) ∧ OverExc x.bm
  init : findIn K (.ref C) "__init__" = some (some (.ref fI))
structure InitK (K : Frag) (fI : Addr) : Prop where
  d : ∃ qual ps k scope cdv, Def K fI qual (initBody ps k) scope cdv ["self", "why"] (fun ts => if ts.length = 2 then some ts else none) ∧ gloN scope "Exception" = true ∧ locN scope "self" = true ∧ locN scope "why" = true ∧
    ∀ env, ∃ pl, eval (.Call (.Attribute (.Name "Exception" (ps 0)) "__init__" (ps 1)) [.Name "self" (ps 2), .Name "why" (ps 3)] [] (ps 4)) env = (do
      let ov ← eval (.Name "Exception" (ps 0)) env
      standAt (ps 1).atName
      let (f, first) ← holding [ov] (getMethod ov "__init__" pl)
      callWith (ps 4) f first (backTo (ps 4) (starEach [.Name "self" (ps 2), .Name "why" (ps 3)] env)) (backToKw (ps 4) (keywordEach [] env)))
  exc : gvK K "Exception" = some (.type "Exception")
  fn : ∃ o, K.lookup fI = some o ∧ o.cls = .type "function"
  find : findCls K (.type "Exception") (.type "type") "__init__" = some (.val (.builtin "Exception.__init__"))

/-- an exception object of the program, just made or on its way -/
structure ExcObj (h : Heap) (e d C : Addr) (y : PySem.Str) : Prop where
  at_ : ∃ T0 sl, h.get? e = some { cls := .ref C, dict := some d, data := .fields #[.ref T0, .none, .none, .none, .bool false, .none], slots := sl }
  dict : ∃ es n t, h.get? d = some (dictOf es n) ∧ getL "why" es = some (some (.str y t))

section
variable {prog : Program} {w : World} {K : Frag} {h₀ : Heap} {C fI : Addr}

set_option maxHeartbeats 2000000 in
theorem init_runs (B : Base prog w K h₀) (XC : ExcCls K C fI) (XI : InitK K fI) {A : Around} {s : Shared} {e T : Addr} {y : PySem.Str} {t : Tok} {QQ EE : Value → Shared → Prop} (hroom : A.depth < 1000) (hk : ∀ b o, h₀.get? b = some o → s.heap.get? b = some o) (he0 : h₀.get? e = none) (hsz : h₀.objs.size ≤ s.heap.objs.size)
    (he : s.heap.get? e = some { cls := .ref C, data := .fields #[.ref T, .none, .none, .none, .bool false, .none] })
    (h : ∀ h' tk' d, ExcObj h' e d C y → s.heap.get? d = none → (∀ b o, b ≠ e → s.heap.get? b = some o → h'.get? b = some o) → QQ .none { s with heap := h', toks := tk' }) :
    wpAny (model prog w) A (call (.ref fI) [.ref e, .str y t]) QQ EE s := by
  obtain ⟨qual, ps, k, scope, cdv, D, g1, l1, l2, hform⟩ := XI.d
  obtain ⟨name, params, dV, kV, doc, pm, ct, oc, an, od, osl, ho, _, hb⟩ := D.there
  obtain ⟨cx, hC, O⟩ := XC.obj
  have hbd := hb [.ref e, .str y t] rfl s (B.X.keeps hk)
  refine call_fn B hk ho D.code hroom hbd (fun x hx => D.loc _ (List.of_mem_zip hx).1) D.cell (fun h1 n1 k1 => ?_) D.co D.gen D.kind
  have e1 : (fun x => ([("self" : PySem.Str), "why"].zip [Value.ref e, .str y t]).reverse.lookup x) ("self" : PySem.Str) = some (Value.ref e) := rfl
  have e2 : (fun x => ([("self" : PySem.Str), "why"].zip [Value.ref e, .str y t]).reverse.lookup x) ("why" : PySem.Str) = some (Value.str y t) := rfl
  have hLe : e ≠ s.heap.objs.size := Nat.ne_of_lt (Heap.lt_size he)
  have F1 : Fr h₀ s.heap.objs.size h1 (fun x => ([("self" : PySem.Str), "why"].zip [Value.ref e, .str y t]).reverse.lookup x) := ⟨n1, fun b o z => k1 b o (hk b o z), hsz⟩
  have hC0 : h₀.get? C = some _ := B.X _ _ hC
  have stay : ∀ {g g' : Heap}, Fr h₀ s.heap.objs.size g (fun x => ([("self" : PySem.Str), "why"].zip [Value.ref e, .str y t]).reverse.lookup x) → (∀ b o, b ≠ e → g.get? b = some o → g'.get? b = some o) → Fr h₀ s.heap.objs.size g' (fun x => ([("self" : PySem.Str), "why"].zip [Value.ref e, .str y t]).reverse.lookup x) := fun F z =>
    ⟨F.ns.at' fun o q => z _ o hLe.symm q, fun b o q => z b o (fun r => by rw [r, he0] at q; cases q) (F.keep b o q), F.above⟩
  have hkd := D.kind
  obtain ⟨a1, a2⟩ := locN_of (cn := qual) (fa := fI) (cd := cdv) (L := s.heap.objs.size) l1
  obtain ⟨b1, b2⟩ := locN_of (cn := qual) (fa := fI) (cd := cdv) (L := s.heap.objs.size) l2
  have hi : interactive (envOf qual scope s.heap.objs.size fI cdv) = false := by
    show ((scope.kind == .module) && _) = false
    rw [hkd]; rfl
  obtain ⟨pl, hform'⟩ := hform (envOf qual scope s.heap.objs.size fI cdv)
  refine wpAny_execs_cons (wpAny_Expr (methodCall_KW (kws := []) (pl := pl) (glob_name B hkd XI.exc g1 F1 ?_) hform') hi rfl)
  refine method_type F1 B.X (by kernel_rfl) (by decide +kernel) XI.find rfl ?_
  refine Calls.callWith_builtin rfl (Calls.evalArgs_plain (Calls.spliced_cons (ld F1 e1 (Calls.spliced_cons (ld F1 e2 (Calls.spliced_nil ?_) hkd b1 b2)) hkd a1 a2)))
  refine exc_binit O (F1.keep _ _ hC0) (k1 _ _ he) fun h2 tk2 T2 he2 k2 => ?_
  have F2 := stay F1 k2
  refine wpAny_execs_cons (plainObj_wpAny_Assign_Attribute (ld F2 e2 (ld F2 e1 ?_ hkd a1 a2) hkd b1 b2) rfl)
  refine exc_set1 (B.X.keeps F2.keep) he2 XC.k XC.k.why fun h3 tk3 t3 hsh3 d n3 he3 hd3 hd0 k3 => ?_
  have F3 := stay F2 k3
  refine wpAny_execs_cons (plainObj_wpAny_Assign_Attribute (wpAny_UnaryOp (wpAny_Constant_int (PyProof.Rows.neg_int (ld F3 e1 ?_ hkd a1 a2)))) rfl)
  refine exc_set2 (B.X.keeps F3.keep) he3 hd3 ?_ ?_ XC.k XC.k.at_ fun h4 tk4 t4 hsh4 n4 he4 hd4 k4 => ?_
  · kernel_rfl
  · show (putL _ _ _ _ _).length ≤ 1000
    unfold putL
    split <;> simp [putL]
  · refine wpAny_execs_nil (h h4 tk4 d ⟨⟨T2, _, he4⟩, ⟨_, n4, t, hd4, ?_⟩⟩ ?_ fun b o hbe hbo => ?_)
    · kernel_rfl
    · cases q : s.heap.get? d with
      | none => rfl
      | some o =>
        have hde : d ≠ e := fun z => by rw [z, he2] at hd0; cases hd0
        rw [k2 d o hde (k1 d o q)] at hd0
        cases hd0
    · have hbd : b ≠ d := fun z => by
        have := k2 b o hbe (k1 b o hbo)
        rw [z, hd0] at this
        cases this
      exact k4 b o hbd (k3 b o hbe (k2 b o hbe (k1 b o hbo)))
end
end Mine
end
section
open PySem PySem.W PyProof.Rows
set_option Elab.async false
namespace Mine
set_option tactic.hygienic false
set_option maxRecDepth 100000
set_option linter.unusedVariables false
set_option linter.unusedSectionVars false

section
variable {prog : Program} {w : World} {K : Frag} {h₀ : Heap} {C fI : Addr}

theorem raise_made {M : Model} {A : Around} {E : Value → Shared → Prop} {env : Env} {s : Shared} {cx : ECls} {x : Sem Value} {Q : Flow → Shared → Prop} (O : OverExc cx.bm) (hh : A.handled = none)
    (h : wpAny M A x (fun v s₁ => ∃ e t dx sl, v = .ref e ∧ s₁.heap.get? C = some (cx.obj C) ∧
      s₁.heap.get? e = some { cls := .ref C, dict := dx, data := .fields #[.ref t, .none, .none, .none, .bool false, .none], slots := sl } ∧ E (.ref e) s₁) E s) :
    wpAny M A (raiseStmt env (some x) none) Q E s := by
  have hcB : (Value.ref C :: cx.bm).contains (.type "BaseException") = true := by rw [List.contains_cons, O.b, Bool.or_true]
  unfold raiseStmt
  refine wpAny_bind (wpAny_mono h (fun v s₁ h₁ => ?_) fun _ _ x => x)
  obtain ⟨e, t, dx, sl, rfl, hC, he, hE⟩ := h₁
  obtain ⟨hp, g, d, tk, os⟩ := s₁
  repeat (first | with_reducible refine wpAny_loadPart_at he ?_ | with_reducible refine wpAny_loadPart_at hC ?_ | (with_reducible refine wpAny_isSubtype_exc hC ?_; rw [hcB]) | wp_step)
  exact wpAny_raiseNew_none hh hE

theorem stack_frames {A : Around} {G : Wo} {l : List Env} {L : Addr} {m : PySem.Str → Option Value} {own fr aux : Led} {W : List Addr} {ρ : Loc} {h : Heap} (S : Stack A G L l) (I : Inv G h₀ L h m own fr aux W ρ) : framesOf l = L :: G.outs ∧ h.FunFrames h₀ l := by
  obtain ⟨env, r, rfl, e2, e3⟩ := S.top
  refine ⟨by unfold framesOf at e3 ⊢; rw [List.filterMap_cons, e2, e3], ?_, ⟨L, ?_⟩, ?_⟩
  · exact (S.kinds env (.head _)).1
  · obtain ⟨o, es, ep, ho, hd, _⟩ := I.F.ns
    exact ⟨o, e2, Heap.get?_none_of_le I.F.above, ho, fun vs q => by rw [hd] at q; cases q⟩
  · have key : ∀ (r : List Env), (∀ env ∈ r, env.scope.kind ≠ .module ∧ ∃ a, env.frame = some a) → (∀ a ∈ framesOf r, a ∈ G.outs) → h.FunFrames h₀ r := by
      intro r
      induction r with
      | nil => intro _ _; trivial
      | cons x r ih =>
        intro hk hs
        obtain ⟨k1, a, k2⟩ := hk x (.head _)
        obtain ⟨o, ho, hn⟩ := I.outs a (hs a (by unfold framesOf; rw [List.filterMap_cons, k2]; exact .head _))
        have := I.N (a, o) (List.mem_append_right _ ho)
        exact ⟨k1, ⟨a, o, k2, this.2.2, this.1, hn⟩, ih (fun env he => hk env (.tail _ he)) fun b hb => hs b (by unfold framesOf at hb ⊢; rw [List.filterMap_cons, k2]; exact .tail _ hb)⟩
    exact key r (fun env he => S.kinds env (.tail _ he)) fun a ha => e3 ▸ ha

theorem raise_env (B : Base prog w K h₀) (XC : ExcCls K C fI) (XI : InitK K fI) (hkeep : keepIn K (.ref C) = true) {A : Around} {G : Wo} {l : List Env} {L : Addr} {env : Env} (hr : Room A 3) (S : Stack A G L l)
    {f y : PySem.Str} {k : Nat} {p1 p2 p3 pos : Pos} {s : Shared} (hname : ∀ {Q E : Value → Shared → Prop}, Q (.ref C) s → wpAny (model prog w) A (eval (.Name f p1) env) Q E s) {m : PySem.Str → Option Value} {own fr aux : Led} {W : List Addr} {ρ : Loc} {QQ : Flow → Shared → Prop} {EE : Value → Shared → Prop} (I : Inv G h₀ L s.heap m own fr aux W ρ)
    (x : ∀ e h' tk', EN h₀ l L G.hold m own fr aux W ρ h' e C y → EE (.ref e) { s with heap := h', toks := tk' }) :
    wpAny (model prog w) A (exec (.Raise (some (.Call (.Name f p1) [.Constant (.str y) k p2] [] p3)) none pos) env) QQ EE s := by
  obtain ⟨cx, hC, O⟩ := XC.obj
  rw [arm_exec_Raise]
  refine wpAny_bind (wpAny_standAt (raise_made O hr.hh (C := C) (cx := cx) (wpAny_bind (wpAny_mono (Q := fun v s₁ => ∃ e t dx sl, v = .ref e ∧ s₁.heap.get? C = some (cx.obj C) ∧ s₁.heap.get? e = some { cls := .ref C, dict := dx, data := .fields #[.ref t, .none, .none, .none, .bool false, .none], slots := sl } ∧ EE (.ref e) s₁) (E := EE) ?_ (fun v s₃ h₃ => wpAny_bind (wpAny_standAt (wpAny_pure h₃))) fun _ _ z => z))))
  rw [arm_eval_Call_Name']
  refine wpAny_bind (hname ?_)
  refine callWith_of (P := fun h => K.In h) rfl (fun h hX => keeps_K hkeep h hX) (Calls.evalArgs_plain (Calls.spliced_cons (wpAny_Constant_str (k := k) (pos := p2) (Calls.spliced_nil ⟨B.X.keeps I.F.keep, ?_⟩))))
  have hX := B.X.keeps I.F.keep
  obtain ⟨oF, hoF, hoFc⟩ := XI.fn
  have L1 : Looks (model prog w) s.heap (typeLookup (.ref C) "__init__") (some (.ref fI)) := looks_findIn hX XC.init
  have hL := I.F.ns.lt
  have hsz : h₀.objs.size ≤ s.heap.objs.size := Nat.le_of_lt (Nat.lt_of_le_of_lt I.F.above hL)
  obtain ⟨hfr, hff⟩ := stack_frames S I
  refine exc_call (h := s.heap) (g := s.gens) (d := s.drawn) (os := s.os) O (hX _ _ hC) L1 (hX _ _ hoF) hoFc (fun h1 e hm => ?_) (by rw [sizeLine_eq]; show 1 ≤ 16777216; decide)
  obtain ⟨T, he1, hT, _⟩ := hm.there
  have he0 : h₀.get? e = none := by
    cases z : h₀.get? e with
    | none => rfl
    | some o => have := I.F.keep _ _ z; rw [hm.new] at this; cases this
  have hsz1 : h₀.objs.size ≤ h1.objs.size := by
    obtain ⟨o, es', ep, ho, _⟩ := I.F.ns
    exact Nat.le_of_lt (Nat.lt_of_le_of_lt I.F.above (Heap.lt_size (hm.keeps _ _ ho)))
  refine init_runs (s := ⟨h1, s.gens, s.drawn, s.toks + 1, s.os⟩) B XC XI (by have := hr.depth; show A.depth + 1 < 1000; lia) (fun b o z => hm.keeps _ _ (I.F.keep b o z)) he0 hsz1 he1 fun h2 tk2 d hx hd0 k2 => ⟨rfl, ?_⟩
  obtain ⟨⟨T0, sl, he2⟩, es, n, t, hd2, hw⟩ := hx
  have old : ∀ b o, s.heap.get? b = some o → h2.get? b = some o ∧ b ≠ e ∧ b ≠ d := fun b o z => by
    have hbe : b ≠ e := fun r => by rw [r, hm.new] at z; cases z
    refine ⟨k2 b o hbe (hm.keeps _ _ z), hbe, fun r => ?_⟩
    have := hm.keeps _ _ z
    rw [r] at this
    have hd0' : h1.get? d = none := hd0
    rw [hd0'] at this
    cases this
  have led : ∀ p ∈ own ++ fr ++ aux, s.heap.get? p.1 = some p.2 := fun p hp => (I.N p hp).1
  refine ⟨e, T0, some d, sl, rfl, (old _ _ (hX _ _ hC)).1, he2, x e h2 tk2 ⟨⟨fun b o z => (old b o (I.F.keep b o z)).1, hff.of_keeps fun b o z _ => ⟨o, (old b o z).1, rfl⟩, I.F.ns.at' fun o z => (old _ o z).1, fun p hp => ⟨fun _ => (old _ _ (led p hp)).1, p.2.slots, (old _ _ (led p hp)).1⟩, d, _, es, n, t, sl, he2, he0, (by show 1 < 6; decide), hd2, ?_, hw, fun hmem => ?_, fun hmem => ?_, fun hmem => ?_, .inl rfl⟩, I.hold⟩⟩
  · cases z : h₀.get? d with
    | none => rfl
    | some o => exact absurd rfl (old _ _ (I.F.keep _ _ z)).2.2
  · rw [hfr] at hmem
    rcases List.mem_cons.mp hmem with z | z
    · obtain ⟨o, es', ep, ho, _⟩ := I.F.ns
      exact (old _ _ ho).2.2 z.symm
    · obtain ⟨o, ho, _⟩ := I.outs _ z
      exact (old _ _ (led _ (List.mem_append_right _ ho))).2.2 rfl
  · obtain ⟨p, hp, z⟩ := List.mem_map.mp hmem
    exact (old _ _ (led p hp)).2.1 z
  · obtain ⟨p, hp, z⟩ := List.mem_map.mp hmem
    exact (old _ _ (led p hp)).2.2 z

theorem raise_stands (B : Base prog w K h₀) (XC : ExcCls K C fI) (XI : InitK K fI) (hkeep : keepIn K (.ref C) = true) {A : Around} {G : Wo} {l : List Env} {L fa : Addr} {cn : PySem.Str} {sc : Scope} {cd : Value} (hr : Room A 3) (S : Stack A G L l) (hk : sc.kind = .function)
    {f y : PySem.Str} {k : Nat} {p1 p2 p3 pos : Pos} {s : Shared} {m : PySem.Str → Option Value} {own fr aux : Led} {W : List Addr} {ρ : Loc} {QQ : Flow → Shared → Prop} {EE : Value → Shared → Prop} (hf : gvK K f = some (.ref C)) (hg : gloN sc f = true) (I : Inv G h₀ L s.heap m own fr aux W ρ)
    (x : ∀ e h' tk', EN h₀ l L G.hold m own fr aux W ρ h' e C y → EE (.ref e) { s with heap := h', toks := tk' }) :
    wpAny (model prog w) A (exec (.Raise (some (.Call (.Name f p1) [.Constant (.str y) k p2] [] p3)) none pos) (envOf cn sc L fa cd)) QQ EE s :=
  raise_env B XC XI hkeep hr S (fun h => glob_name B hk hf hg I.F h) I x
end
end Mine
end
section
open PySem PySem.W PySem.Builtin PySem.Builtin.ObjectAttr
set_option Elab.async false
namespace Mine
set_option maxRecDepth 100000
set_option linter.unusedVariables false
set_option linter.unusedSectionVars false

theorem isStr_lit (n : PySem.Str) (t : Tok) (a : PySem.Str) : (Value.str n t).isStr a = (n == a) := rfl

theorem ipEs_get {pm : Params} {a : PySem.Str} : ∀ {ns : List PySem.Str} {ts : List Tok} {vs : List Value} {v : Value}, vs.length = ts.length → vs.length ≤ ns.length → vs[ns.findIdx (· == a)]? = some v → getL a (ipEs pm ns ts vs) = some (some v)
  | [], ts, vs, v, _, h, e => by
    have : vs = [] := List.length_eq_zero_iff.mp (Nat.le_zero.mp h)
    subst this; simp at e
  | n :: ns, [], vs, v, h, _, e => by
    have : vs = [] := List.length_eq_zero_iff.mp h
    subst this; simp at e
  | n :: ns, t :: ts, [], v, h, _, e => by simp at e
  | n :: ns, t :: ts, u :: vs, v, h, h2, e => by
    unfold ipEs
    by_cases q : (n == a) = true
    · rw [List.findIdx_cons, q] at e
      simp at e; subst e
      unfold getL
      rw [List.find?_cons_of_pos (p := fun x : DictEntry => x.key.isStr a) (show (⟨PyData.keyHash pm n, .str n t, u⟩ : DictEntry).key.isStr a = true from q)]
    · have q' : (n == a) = false := Bool.not_eq_true _ ▸ q
      rw [List.findIdx_cons, q'] at e
      simp at e
      have ih := ipEs_get (pm := pm) (a := a) (ns := ns) (ts := ts) (vs := vs) (v := v) (by simpa using h) (by simpa using h2) e
      unfold getL at ih ⊢
      rw [List.find?_cons_of_neg (p := fun x : DictEntry => x.key.isStr a) (by show ¬ (n == a) = true; exact q)]
      revert ih
      cases hf : List.find? (fun x => x.key.isStr a) (ipEs pm ns ts vs) with
      | some e => intro ih; exact ih
      | none =>
        intro ih
        dsimp only at ih
        split at ih <;> cases ih

noncomputable def setV : List Value → Nat → Value → List Value
  | [], 0, t => [t]
  | [], _ + 1, _ => []
  | _ :: xs, 0, t => t :: xs
  | x :: xs, n + 1, t => x :: setV xs n t
theorem setV_den {G : Wo} {P : Facts} {t : Tr} {v : Value} (d : Den G P t v) : ∀ {fs : List Tr} {vs : List Value} {i : Nat}, DenL G P fs vs → DenL G P (setIp fs i t) (setV vs i v)
  | [], vs, 0, h => by rw [h]; exact ⟨_, _, rfl, d, rfl⟩
  | [], vs, _ + 1, h => by rw [h]; rfl
  | _ :: _, _, 0, h => by obtain ⟨u, r, rfl, _, dl⟩ := h; exact ⟨_, _, rfl, d, dl⟩
  | _ :: _, _, i + 1, h => by obtain ⟨u, r, rfl, du, dl⟩ := h; exact ⟨_, _, rfl, du, setV_den d dl⟩
theorem setV_len {v : Value} {k : Nat} : ∀ {vs : List Value} {i : Nat}, i < k → vs.length ≤ k → (setV vs i v).length ≤ k
  | [], 0, h, _ => h
  | [], _ + 1, _, h => Nat.zero_le _
  | _ :: _, 0, _, h => h
  | _ :: vs, i + 1, h, h2 => by
    cases k with
    | zero => exact absurd h (Nat.not_lt_zero _)
    | succ k => exact Nat.succ_le_succ (setV_len (Nat.lt_of_succ_lt_succ h) (Nat.le_of_succ_le_succ h2))

theorem ipEs_put {pm : Params} {a : PySem.Str} {tk : Tok} {v : Value} : ∀ {ns : List PySem.Str} {ts : List Tok} {vs : List Value}, vs.length = ts.length → ns.findIdx (· == a) ≤ vs.length → ns.findIdx (· == a) < ns.length →
    ∃ ts', putL a (PyData.keyHash pm a) (.str a tk) v (ipEs pm ns ts vs) = ipEs pm ns ts' (setV vs (ns.findIdx (· == a)) v) ∧ (setV vs (ns.findIdx (· == a)) v).length = ts'.length
  | [], _, _, _, _, h => absurd h (Nat.not_lt_zero _)
  | n :: ns, ts, vs, hl, h1, h2 => by
    by_cases q : (n == a) = true
    · have e0 : (n :: ns).findIdx (· == a) = 0 := by rw [List.findIdx_cons, q]; rfl
      have qa : n = a := beq_iff_eq.mp q
      rw [e0]
      cases vs with
      | nil =>
        cases ts with
        | cons _ _ => cases hl
        | nil => subst qa; exact ⟨[tk], by cases ns <;> rfl, rfl⟩
      | cons u vs =>
        cases ts with
        | nil => cases hl
        | cons t ts =>
          refine ⟨t :: ts, ?_, by simpa [setV] using hl⟩
          show putL a _ _ v (⟨_, .str n t, u⟩ :: ipEs pm ns ts vs) = _
          unfold putL
          rw [if_pos (by exact q)]
          rfl
    · have q' : (n == a) = false := Bool.not_eq_true _ ▸ q
      have e0 : (n :: ns).findIdx (· == a) = ns.findIdx (· == a) + 1 := by rw [List.findIdx_cons, q']; rfl
      rw [e0] at h1 h2 ⊢
      cases vs with
      | nil => exact absurd h1 (Nat.not_succ_le_zero _)
      | cons u vs =>
        cases ts with
        | nil => cases hl
        | cons t ts =>
          obtain ⟨ts', e1, e2⟩ := ipEs_put (pm := pm) (a := a) (tk := tk) (v := v) (ns := ns) (ts := ts) (vs := vs) (by simpa using hl) (Nat.le_of_succ_le_succ h1) (Nat.lt_of_succ_lt_succ h2)
          refine ⟨t :: ts', ?_, by simpa [setV] using e2⟩
          show putL a _ _ v (⟨_, .str n t, u⟩ :: ipEs pm ns ts vs) = _
          unfold putL
          rw [if_neg (by show ¬ (n == a) = true; exact q), e1]
          rfl
theorem ipEs_noRef {pm : Params} : ∀ {ns : List PySem.Str} {ts : List Tok} {vs : List Value}, (ipEs pm ns ts vs).any (·.refKey) = false
  | [], _, _ => rfl
  | _ :: _, [], _ => rfl
  | _ :: _, _ :: _, [] => rfl
  | n :: ns, t :: ts, v :: vs => by
    unfold ipEs
    rw [List.any_cons, ipEs_noRef]; rfl
theorem ipEs_length {pm : Params} : ∀ {ns : List PySem.Str} {ts : List Tok} {vs : List Value}, (ipEs pm ns ts vs).length ≤ vs.length
  | [], _, _ => Nat.zero_le _
  | _ :: _, [], _ => Nat.zero_le _
  | _ :: _, _ :: _, [] => Nat.zero_le _
  | n :: ns, t :: ts, v :: vs => by
    unfold ipEs
    exact Nat.succ_le_succ ipEs_length

/-- the class of the heads -/
structure IpK (K : Frag) (C : Addr) : Prop where
  cls : ∃ cd, clsIn K C = some cd ∧ cd.hasDict = true ∧ ∀ self : Value, refuseLoop self "__setattr__" cd.mro = pure ()
  obj : mroIn K C (.type "object") = some true
  sa : findIn K (.ref C) "__setattr__" = some (some (.builtin "object.__setattr__"))
  pg : ∀ a, plainGet K C a = true
  no : ∀ a ∈ ipNames, findIn K (.ref C) a = some none

theorem ipIx_lt {a : PySem.Str} (h : ipIx a < 11) : a ∈ ipNames := by
  unfold ipIx at h
  have hl : ipNames.findIdx (· == a) < ipNames.length := h
  have := List.findIdx_getElem (w := hl)
  have e : ipNames[ipNames.findIdx (· == a)] = a := beq_iff_eq.mp this
  rw [← e]; exact List.getElem_mem hl

section
variable {prog : Program} {w : World} {A : Around} {E : Value → Shared → Prop} {s : Shared} {K : Frag} {C x : Addr} {name : PySem.Str} {v : Value}

theorem ip_set {d : Addr} {es : List DictEntry} {n : Nat} {Q : Unit → Shared → Prop} (X : K.In s.heap) (he : s.heap.get? x = some (instObj C d)) (hdd : s.heap.get? d = some (dictOf es n))
    (hl : es.any (·.refKey) = false) (hz : ∀ tk, (putL name (PyData.keyHash w.params name) (.str name tk) v es).length ≤ 1000) (k : IpK K C) (ha : findIn K (.ref C) name = some none)
    (h : ∀ h' tk' t n', h'.get? x = some (instObj C d) → h'.get? d = some (dictOf (putL name (PyData.keyHash w.params name) (.str name t) v es) n') → (∀ b o, b ≠ d → s.heap.get? b = some o → h'.get? b = some o) → Q () { s with heap := h', toks := tk' }) :
    wpAny (model prog w) A (setAttr (.ref x) name v) Q E s := by
  have I : InstAt s.heap x (instObj C d) C (some (dictOf es n)) := ⟨he, rfl, rfl, hdd⟩
  refine set_plain X I k.sa ?_
  have SF := PySem.F.store_object
  obtain ⟨cd, hc, hd, hr⟩ := k.cls
  have sub : Looks (model prog w) s.heap (isInstance (.ref x) (.type "object")) true := I.type.andThen (looks_mroIn X k.obj)
  refine codeAny_call_builtin SF.slot.plain SF.entry (@check_slot (model prog w) _ _ { s with toks := s.toks + 1 } "object.__setattr__" "object" "__setattr__" (.ref x) [.str name s.toks, v] [] _ SF.kind SF.split sub (SF.args (.ref x) (.str name s.toks) v) ?_)
  have hm : Looks (model prog w) s.heap (mroOf (.ref C)) cd.mro := (looks_clsIn X hc).andThen .now
  have L3 : Looks (model prog w) s.heap (storeTaker? none) none := .now
  rw [osa_eq, refuse_eq]
  refine wpAny_bind (wpAny_bind (I.type _ _ _ _ (fun _ _ e => e) (wpAny_bind (hm _ _ _ _ (fun _ _ e => e) ?_))))
  rw [hr]
  refine wpAny_pure (wpAny_bind (I.type _ _ _ _ (fun _ _ e => e) (wpAny_bind ((looks_findIn X ha) _ _ _ _ (fun _ _ e => e) (wpAny_bind (L3 _ _ _ _ (fun _ _ e => e) ?_))))))
  dsimp only
  refine wpAny_bind (wpAny_pure (wpAny_bind (wpAny_bind (wpAny_loadPart he (wpAny_bind (looks_clsIn X hc _ _ _ _ (fun _ _ e => e) ?_))))))
  dsimp only
  rw [hd]
  rw [if_neg (by decide)]
  refine wpAny_pure ?_
  show wpAny _ _ (storeInDict d (.str name _) name v) _ _ _
  unfold storeInDict newKeyGuard nsSet
  refine wpAny_bind (wpAny_pure (wpAny_bind ?_))
  refine wpAny_bind (wpAny_bind (wpAny_askSetting (wpAny_pure (wpAny_bind (wpAny_mkText (wpAny_bind (wpAny_loadPart hdd ?_)))))))
  dsimp only
  rw [aRefKeyMayBeTheName_at, show (!(es.toArray).any (·.key.isStr name) && (es.toArray).any (·.refKey)) = false from by rw [List.any_toArray, List.any_toArray, hl, Bool.and_false]]
  refine wpAny_updatePart hdd ?_
  have e3 := Heap.get?_update_self (Obj.putName name (PyData.keyHash w.params name) (.str name (s.toks + 1)) v) hdd (by rw [putName_dict]; rfl)
  rw [putName_dict] at e3
  have hz' := hz (s.toks + 1)
  refine wpAny_bind (wpAny_lookBehind e3 (pastItsLine_dict (by rw [List.size_toArray, sizeLine_eq]; lia)) ?_)
  have hxd : x ≠ d := fun z => by rw [z, hdd] at he; cases he
  refine wpAny_pure (h _ _ _ _ ?_ e3 fun b o hb hbo => ?_)
  · rw [Heap.get?_update_ne _ _ _ _ hxd]; exact he
  · rw [Heap.get?_update_ne _ _ _ _ hb]; exact hbo

theorem den_handed {G : Wo} {P : Facts} {t : Tr} {v : Value} (d : Den G P t v) : handedIn v = true := by
  cases t with
  | none => rw [show v = .none from d]; rfl
  | bool b => rw [show v = .bool b from d]; rfl
  | int i => obtain ⟨t, rfl⟩ := d; rfl
  | str x => obtain ⟨t, rfl⟩ := d; rfl
  | bytes ks => obtain ⟨b, t, rfl, _⟩ := d; rfl
  | list xs => obtain ⟨a, o, vs, rfl, _⟩ := d; rfl
  | tup xs => obtain ⟨a, o, vs, rfl, _⟩ := d; rfl
  | ip fs => obtain ⟨a, o, vs, n, ts, rfl, _⟩ := d; rfl
  | exc y => obtain ⟨a, o, d, es, n, t, rfl, _⟩ := d; rfl
  | slice lo hi => obtain ⟨a, o, l, u, rfl, _⟩ := d; rfl

/-- an field of a thing of ours is read -/
theorem attr_sound {h₀ : Heap} {G : Wo} {L : Addr} (B : Base prog w K h₀) (kI : IpK K G.ipC) (hh : hasDictIn K G.ipC = true) (kE : ∀ c ∈ G.exC, ExcK K c) {m : PySem.Str → Option Value} {own fr aux : Led} {W : List Addr} {ρ : Loc} {a : PySem.Str} {t : Tr} {v : Value} {Q : Tr → Prop} {QQ E : Value → Shared → Prop} (ha : attrW a t Q)
    (I : Inv G h₀ L s.heap m own fr aux W ρ) (d : Den G (PF h₀ fr) t v) (q : VPost G h₀ L m own fr aux W ρ s Q QQ) : wpAny (model prog w) A (getAttr v a true) QQ E s := by
  cases t <;> first | exact ha.elim | skip
  · rename_i fs
    obtain ⟨x, dx, vs, n, ts, rfl, px, pd, dl, hl, h11⟩ := d
    obtain ⟨y, hy, hq⟩ := ha
    obtain ⟨vy, hvy, dy⟩ := dl.get hy
    have hi : ipIx a < 11 := Nat.lt_of_lt_of_le (List.getElem?_eq_some_iff.mp hvy).1 h11
    have hn := kI.no a (ipIx_lt hi)
    have Ii : InstAt s.heap x (instObj G.ipC dx) G.ipC (some (dictOf (ipEs G.pm ipNames ts vs) n)) := ⟨I.pf px, rfl, rfl, I.pf pd⟩
    exact get_own I.F B.X Ii (kI.pg a) hh hn rfl (ipEs_get hl h11 hvy) (den_handed dy) (q _ s.heap _ fr y I (fun _ h => h) dy hq)
  · rename_i why
    obtain ⟨x, o, dx, es, n, t, rfl, px, ⟨c, hc, hcm, hnc, hod⟩, pd, hw⟩ := d
    obtain ⟨rfl, hq⟩ := ha
    have Ii : InstAt s.heap x o c (some (dictOf es n)) := ⟨I.pf px, hc, hnc, by rw [hod]; exact I.pf pd⟩
    exact exc_get (B.X.keeps I.F.keep) Ii (kE c hcm) hw fun tk => q _ s.heap tk fr (.str why) I (fun _ h => h) ⟨_, rfl⟩ hq

/-- an field of a head that one name alone holds is written -/
theorem seta_sound {h₀ : Heap} {G : Wo} {L : Addr} (B : Base prog w K h₀) (hpm : G.pm = w.params) (kI : IpK K G.ipC) {m : PySem.Str → Option Value} {own fr aux : Led} {W : List Addr} {ρ : Loc} {x a : PySem.Str} {fs : List Tr} {t : Tr} {vx v : Value} {QQ : Unit → Shared → Prop} {EE : Value → Shared → Prop} (I : Inv G h₀ L s.heap m own fr aux W ρ)
    (hx : look x ρ = some (.mu (.ip fs))) (hm : m x = some vx) (d : Den G (PF h₀ fr) t v) (h1 : ipIx a ≤ fs.length) (h2 : ipIx a < 11)
    (q : ∀ h' tk' own', Inv G h₀ L h' m own' fr aux W (upd x (.mu (.ip (setIp fs (ipIx a) t))) ρ) → QQ () { s with heap := h', toks := tk' }) : wpAny (model prog w) A (setAttr vx a v) QQ EE s := by
  obtain ⟨u, c, hu, hc, hco, ch⟩ := I.change hx
  rw [hm] at hu
  cases hu
  have nx := kI.no a (ipIx_lt h2)
  cases hc with
  | ip dl hl h11 =>
    rename_i y dx vs ts n
    have gy := (I.N (y, instObj G.ipC dx) (List.mem_append_left _ (List.mem_append_left _ (hco _ (.head _))))).1
    have gd := (I.N (dx, dictOf (ipEs G.pm ipNames ts vs) n) (List.mem_append_left _ (List.mem_append_left _ (hco _ (.tail _ (.head _)))))).1
    have hlen : vs.length = fs.length := dl.length
    have put := fun tk : Tok => ipEs_put (pm := G.pm) (a := a) (tk := tk) (v := v) (ns := ipNames) (ts := ts) (vs := vs) hl (by rw [hlen]; exact h1) h2
    have l11 : (setV vs (ipNames.findIdx (· == a)) v).length ≤ 11 := setV_len h2 h11
    refine ip_set (B.X.keeps I.F.keep) gy gd ipEs_noRef (fun tk => ?_) kI nx fun h' tk' t' n' e1 e2 e3 => ?_
    · obtain ⟨ts', p1, p2⟩ := put tk
      rw [← hpm, p1]
      exact Nat.le_trans ipEs_length (Nat.le_trans l11 (by decide))
    · obtain ⟨ts', p1, p2⟩ := put t'
      rw [← hpm, p1] at e2
      obtain ⟨own', I'⟩ := ch (h' := h') (t' := .ip (setIp fs (ipIx a) t)) (c' := [(y, instObj G.ipC dx), (dx, dictOf (ipEs G.pm ipNames ts' (setV vs (ipNames.findIdx (· == a)) v)) n')]) rfl (fun b o hb hbo => e3 b o (fun z => hb (by simp [z])) hbo) (fun p hp => by
        rcases List.mem_cons.mp hp with rfl | hp
        · exact e1
        · rw [List.mem_singleton.mp hp]; exact e2) (.ip (setV_den d dl) p2 l11)
      exact q h' tk' own' I'
end
end Mine
end
section
open PySem PySem.W PySem.Spec PySem.Calls PyProof.Rows
set_option Elab.async false
namespace Mine
set_option maxRecDepth 100000
set_option linter.unusedVariables false
set_option linter.unusedSectionVars false

/-- objects just made are handed over to the frozen ones -/
theorem Inv.adopt {G : Wo} {h₀ h : Heap} {L : Addr} {m : PySem.Str → Option Value} {own fr aux c : Led} {W : List Addr} {ρ : Loc} (I : Inv G h₀ L h m own fr aux W ρ) (hc : Fresh h₀ L h own fr W c) : Inv G h₀ L h m own (c ++ fr) aux W ρ := by
  refine ⟨I.F, fun p hp => ?_, ⟨I.S.loc.mono (PF.mono fun p hp => List.mem_append_right _ hp), I.S.nd, I.S.ndo, fun p hp q hq => ?_, fun p hp => ?_⟩, I.live, I.cover, I.outs, fun p hp => List.mem_append_right _ (I.hold p hp)⟩
  · simp only [List.mem_append] at hp
    rcases hp with (hp | hp | hp) | hp
    · exact I.N p (by simp [hp])
    · exact hc.N p hp
    · exact I.N p (by simp [hp])
    · exact I.N p (by simp [hp])
  · rcases List.mem_append.mp hq with hq | hq
    · exact fun e => hc.off q hq p (List.mem_append_left _ hp) e.symm
    · exact I.S.off p hp q hq
  · rcases List.mem_append.mp hp with hp | hp
    · exact I.S.offW p (List.mem_append_left _ hp)
    · rcases List.mem_append.mp hp with hp | hp
      · exact hc.offW p hp
      · exact I.S.offW p (List.mem_append_right _ hp)

/-- a def whose answer is new, called like any other -/
theorem plain_of_new {prog : Program} {w : World} {G : Wo} {h₀ : Heap} {n : Nat} {v : Value} {sp : Spec} (c : ContractN prog w G h₀ n v sp) : Contract prog w G h₀ n v sp := by
  intro A G' l L m own fr aux W ρ s ts vs Q X QQ EE k hr S I d h q x
  refine c k hr S I d h (fun v h' tk' fr' t cc I' f' hc hf hq => ?_) x
  exact q v h' tk' (cc ++ fr') t (I'.adopt hf) (fun p hp => List.mem_append_right _ (f' p hp)) (hc.den (PF.mono fun p hp => List.mem_append_right _ hp) fun p hp => .inr (List.mem_append_left _ hp)) hq

theorem gvP_gvK {K : Frag} {x : PySem.Str} {v : Value} (h : gvP K x = some v) : gvK K x = some v := by
  unfold gvP at h
  split at h
  · rename_i a e
    split at h
    · rw [e]; exact h
    · cases h
  · exact h
theorem gvP_keep {K : Frag} {x : PySem.Str} {a : Addr} (h : gvP K x = some (.ref a)) : keepIn K (.ref a) = true := by
  unfold gvP at h
  split at h
  · rename_i a' e
    split at h
    · rename_i q; cases h; exact q
    · cases h
  · rename_i hn
    exact absurd h (hn a)

structure Lib (prog : Program) (w : World) (K : Frag) (G : Wo) (h₀ : Heap) : Prop where
  B : Base prog w K h₀
  pm : G.pm = w.params
  ip : IpK K G.ipC
  ipd : hasDictIn K G.ipC = true
  ex : ∀ c ∈ G.exC, ExcK K c ∧ (∃ fI, ExcCls K c fI ∧ InitK K fI) ∧ keepIn K (.ref c) = true
  rng : gvP K "range" = some (.type "range")
  built : ∀ {f : PySem.Str}, isBuilt f = true → gvP K f = some (builtV f)

inductive Cal where
  | fn (sp : Spec)
  | new (sp : Spec)
  | mu (sp : MSpec)
noncomputable abbrev Cals := List (PySem.Str × Cal)
noncomputable def sigOf (ex : PySem.Str → Option Addr) (l : Cals) : Sig where
  fn f := match l.lookup f with
    | some (.fn sp) => some sp
    | some (.new sp) => some sp
    | _ => none
  new f := match l.lookup f with
    | some (.new _) => true
    | _ => false
  mu f := match l.lookup f with
    | some (.mu sp) => some sp
    | _ => none
  ex := ex
noncomputable def CalOK (prog : Program) (w : World) (K : Frag) (G : Wo) (h₀ : Heap) (n : Nat) (p : PySem.Str × Cal) : Prop :=
  match p.2 with
  | .fn sp => ∃ v k, gvP K p.1 = some v ∧ k ≤ n ∧ Contract prog w G h₀ k v sp
  | .new sp => ∃ v k, gvP K p.1 = some v ∧ k ≤ n ∧ ContractN prog w G h₀ k v sp
  | .mu sp => ∃ v k, gvP K p.1 = some v ∧ k ≤ n ∧ ContractM prog w G h₀ k v sp
inductive CalsOK (prog : Program) (w : World) (K : Frag) (G : Wo) (h₀ : Heap) (n : Nat) : Cals → Prop
  | nil : CalsOK prog w K G h₀ n []
  | fn {f : PySem.Str} {sp : Spec} {v : Value} {k : Nat} {r : Cals} : gvP K f = some v → k ≤ n → Contract prog w G h₀ k v sp → CalsOK prog w K G h₀ n r → CalsOK prog w K G h₀ n ((f, .fn sp) :: r)
  | new {f : PySem.Str} {sp : Spec} {v : Value} {k : Nat} {r : Cals} : gvP K f = some v → k ≤ n → ContractN prog w G h₀ k v sp → CalsOK prog w K G h₀ n r → CalsOK prog w K G h₀ n ((f, .new sp) :: r)
  | mu {f : PySem.Str} {sp : MSpec} {v : Value} {k : Nat} {r : Cals} : gvP K f = some v → k ≤ n → ContractM prog w G h₀ k v sp → CalsOK prog w K G h₀ n r → CalsOK prog w K G h₀ n ((f, .mu sp) :: r)

section
variable {prog : Program} {w : World} {K : Frag} {G : Wo} {h₀ : Heap} {n : Nat} {l : Cals}
theorem CalsOK.at (c : CalsOK prog w K G h₀ n l) {f : PySem.Str} {x : Cal} (h : l.lookup f = some x) : CalOK prog w K G h₀ n (f, x) := by
  induction c with
  | nil => cases h
  | fn a b c _ ih =>
    rw [List.lookup_cons] at h
    split at h
    · rename_i q; cases h; rw [beq_iff_eq.mp q]; exact ⟨_, _, a, b, c⟩
    · exact ih h
  | new a b c _ ih =>
    rw [List.lookup_cons] at h
    split at h
    · rename_i q; cases h; rw [beq_iff_eq.mp q]; exact ⟨_, _, a, b, c⟩
    · exact ih h
  | mu a b c _ ih =>
    rw [List.lookup_cons] at h
    split at h
    · rename_i q; cases h; rw [beq_iff_eq.mp q]; exact ⟨_, _, a, b, c⟩
    · exact ih h

theorem mkFG (Lb : Lib prog w K G h₀) {ex : PySem.Str → Option Addr} (hex : ∀ f C, ex f = some C → gvK K f = some (.ref C) ∧ C ∈ G.exC ∧ 3 ≤ n) (cs : CalsOK prog w K G h₀ n l) {cn : PySem.Str} {sc : Scope} {fa : Addr} {cd : Value} (hk : sc.kind = .function)
    {A : Around} {G' : Wo} {ll : List Env} {L : Addr} (hr : Room A n) (S : Stack A G' L ll) (k : G.Like G') : FG prog w A cn sc L fa cd G' h₀ (EN h₀ ll L G'.hold) (sigOf ex l) (gvP K) where
  E := {
    kind := hk
    hh := hr.hh
    units := by have := hr.units; show A.units + 8 < 9900; lia
    name := fun hv hg F h => glob_name Lb.B hk (gvP_gvK hv) hg F h
    built := Lb.built
    keeper := fun {x v} hv h hkp => by
      cases v with
      | ref a => exact keeps_K (gvP_keep hv) h (Lb.B.X.keeps hkp)
      | _ => exact ⟨.machine, .inr (.inl rfl), .now⟩
    attr := fun ha I d q => attr_sound Lb.B (k.ipC ▸ Lb.ip) (k.ipC ▸ Lb.ipd) (fun c hc => (Lb.ex c (k.exC ▸ hc)).1) ha I d q
    call := fun {f sp} hf => by
      cases hl : l.lookup f with
      | none => simp only [sigOf, hl] at hf; cases hf
      | some x =>
        have c := cs.at hl
        cases x with
        | mu sp' => simp only [sigOf, hl] at hf; cases hf
        | fn sp' =>
          simp only [sigOf, hl] at hf; cases hf
          obtain ⟨v, i, a, b, c⟩ := c
          exact ⟨v, a, fun I d h q x => c k (hr.less b) S I d h q x⟩
        | new sp' =>
          simp only [sigOf, hl] at hf; cases hf
          obtain ⟨v, i, a, b, c⟩ := c
          exact ⟨v, a, fun I d h q x => plain_of_new c k (hr.less b) S I d h q x⟩ }
  new := fun {f sp} hn hf => by
    cases hl : l.lookup f with
    | none => simp only [sigOf, hl] at hf; cases hf
    | some x =>
      have c := cs.at hl
      cases x with
      | mu sp' => simp only [sigOf, hl] at hf; cases hf
      | fn sp' => simp only [sigOf, hl] at hn; cases hn
      | new sp' =>
        simp only [sigOf, hl] at hf; cases hf
        obtain ⟨v, i, a, b, c⟩ := c
        exact ⟨v, a, fun I d h q x => c k (hr.less b) S I d h q x⟩
  mu := fun {f sp} hf => by
    cases hl : l.lookup f with
    | none => simp only [sigOf, hl] at hf; cases hf
    | some x =>
      have c := cs.at hl
      cases x with
      | fn sp' => simp only [sigOf, hl] at hf; cases hf
      | new sp' => simp only [sigOf, hl] at hf; cases hf
      | mu sp' =>
        simp only [sigOf, hl] at hf; cases hf
        obtain ⟨v, i, a, b, c⟩ := c
        exact ⟨v, a, fun I hx hm d h q => c k (hr.less b) S I hx hm d h q⟩
  raise := fun {f y C} _ _ _ _ _ _ _ _ _ _ _ _ _ _ hC hg I x => by
    obtain ⟨h1, h2, h3⟩ := hex f C hC
    obtain ⟨_, ⟨fI, XC, XI⟩, hkp⟩ := Lb.ex C h2
    exact raise_stands Lb.B XC XI hkp (hr.less h3) S hk h1 hg I x
  seta := fun I hx hm d h1 h2 q => seta_sound Lb.B (k.pm ▸ Lb.pm) (k.ipC ▸ Lb.ip) I hx hm d h1 h2 q
  rng := Lb.rng

end
end Mine
end
section
open PySem PySem.W PySem.Spec PySem.Calls PyProof.Rows
set_option Elab.async false
namespace Mine
set_option tactic.hygienic false
set_option maxRecDepth 100000
set_option linter.unusedVariables false
set_option linter.unusedSectionVars false

section
variable {G : Wo} {h₀ : Heap} {L L' : Addr} {m : PySem.Str → Option Value} {own fr aux : Led} {W : List Addr} {ρ : Loc} {s : Shared} {h1 : Heap} {oL : Obj}
/-- a frame is laid that holds what is new -/
theorem enter_new (I : Inv G h₀ L s.heap m own fr aux W ρ) (hoL : s.heap.get? L = some oL) (hd : ∀ vs, oL.data ≠ .fields vs) {m1 : PySem.Str → Option Value} (n1 : h1.Ns s.heap.objs.size m1) (k1 : ∀ b o, s.heap.get? b = some o → h1.get? b = some o)
    {c : Led} {ρ1 : Loc} (hc : Fresh h₀ L s.heap own fr W c) (nd1 : (ρ1.map (·.1)).Nodup) (loc : LocR (below G L fr) (PF h₀ fr) m1 ρ1 c) :
    Inv (below G L fr) h₀ s.heap.objs.size h1 m1 c fr (own ++ (L, oL) :: aux) (own.map (·.1) ++ L :: W) ρ1 := by
  have hLlt : L < s.heap.objs.size := Heap.lt_size hoL
  have hL0 : h₀.get? L = none := Heap.get?_none_of_le I.F.above
  have one : ∀ p, p ∈ own ++ fr ++ aux → h1.get? p.1 = some p.2 ∧ p.1 ≠ s.heap.objs.size ∧ h₀.get? p.1 = none := fun p hp => ⟨k1 _ _ (I.N p hp).1, Nat.ne_of_lt (I.look_lt p hp), (I.N p hp).2.2⟩
  refine ⟨⟨n1, fun b o e => k1 _ _ (I.F.keep b o e), Nat.le_of_lt (Nat.lt_of_le_of_lt I.F.above hLlt)⟩, fun p hp => ?_, ⟨loc, nd1, hc.nd, fun p hp q hq => hc.off p hp q (List.mem_append_right _ hq), fun p hp hW => ?_⟩, fun b hb => ?_, fun q hq => ?_, fun a ha => ?_, fun p hp => hp⟩
  · simp only [List.mem_append, List.mem_cons] at hp
    rcases hp with (hp | hp) | hp | rfl | hp
    · exact ⟨k1 _ _ (hc.N p hp).1, Nat.ne_of_lt (Heap.lt_size (hc.N p hp).1), (hc.N p hp).2.2⟩
    · exact one p (by simp [hp])
    · exact one p (by simp [hp])
    · exact ⟨k1 _ _ hoL, Nat.ne_of_lt hLlt, hL0⟩
    · exact one p (by simp [hp])
  · simp only [List.mem_append, List.mem_cons] at hW
    rcases List.mem_append.mp hp with hp | hp
    · rcases hW with hW | hW | hW
      · obtain ⟨q, hq, e⟩ := List.mem_map.mp hW
        exact hc.off p hp q (List.mem_append_left _ hq) e.symm
      · exact (hc.N p hp).2.1 hW
      · exact hc.offW p hp hW
    · rcases hW with hW | hW | hW
      · obtain ⟨q, hq, e⟩ := List.mem_map.mp hW
        exact I.S.off q hq p hp e
      · exact (I.N p (by simp [hp])).2.1 hW
      · exact I.S.offW p (List.mem_append_right _ hp) hW
  · simp only [List.mem_append, List.mem_cons] at hb
    rcases hb with hb | rfl | hb
    · obtain ⟨q, hq, rfl⟩ := List.mem_map.mp hb
      exact ⟨q.2, by simp [hq]⟩
    · exact ⟨oL, by simp⟩
    · obtain ⟨o, ho⟩ := I.live b hb
      exact ⟨o, by simp [ho]⟩
  · simp only [List.mem_append, List.mem_cons] at hq ⊢
    rcases hq with hq | rfl | hq
    · exact .inl (List.mem_map_of_mem hq)
    · exact .inr (.inl rfl)
    · exact .inr (.inr (I.cover q hq))
  · rcases List.mem_cons.mp ha with rfl | ha
    · exact ⟨oL, by simp, hd⟩
    · obtain ⟨o, h1, h2⟩ := I.outs a ha
      exact ⟨o, by simp [h1], h2⟩
end

section
variable {prog : Program} {w : World} {K : Frag} {h₀ : Heap} {G : Wo} {fI : Addr} {qual : PySem.Str} {body : List Stmt} {scope : Scope} {cdv : Value} {names' : List PySem.Str} {fill : List Tr → Option (List Tr)} {n : Nat} {Γ : Sig}

theorem stack_deeper {A : Around} {G : Wo} {L L' f : Addr} {l : List Env} {fr : Led} {cd : Value} {q : PySem.Str} {sc : Scope} (S : Stack A G L l) (hk : sc.kind = .function) : Stack (A.deeper (envOf q sc L' f cd)) (below G L fr) L' (envOf q sc L' f cd :: l) := by
  obtain ⟨env, r, e1, e2, e3⟩ := S.top
  refine ⟨?_, ⟨_, l, rfl, rfl, ?_⟩, fun env' he => ?_⟩
  · show A.frames.map _ = _
    rw [S.is]; rfl
  · rw [e1]
    show framesOf (env :: r) = L :: G.outs
    unfold framesOf at e3 ⊢
    rw [List.filterMap_cons, e2, e3]
  · rcases List.mem_cons.mp he with rfl | he
    · exact ⟨by show sc.kind ≠ .module; rw [hk]; decide, _, rfl⟩
    · exact S.kinds env' he

noncomputable abbrev sfN : PySem.Str := "self"
/-- a head is made -/
theorem ip_new (B : Base prog w K h₀) (hmk : makesIn K G.ipC = true) (hi : findIn K (.ref G.ipC) "__init__" = some (some (.ref fI))) (hfn : isFn K (.ref fI) = true) (D : Def K fI qual body scope cdv (sfN :: names') fill) (R : Reader prog w K G h₀ n qual scope fI cdv Γ) (ok : okB scope [sfN] body = true) {sp : Spec}
    (hsp : ∀ ts Q X, sp ts Q X → ts.length = names'.length ∧ wpB Γ body ((sfN, .mu (.ip [])) :: names'.zip (ts.map Slot.val)) (endM sfN Q) (fun _ _ _ => False)) : ContractN prog w G h₀ (n + 2) (.ref G.ipC) sp := by
  intro A G' l L m own fr aux W ρ s ts vs Q X QQ EE k hr S I d h q x
  obtain ⟨hln, hw⟩ := hsp ts Q X h
  obtain ⟨name, params, dV, kV, doc, pm, ct, oc, an, od, osl, ho, _, hb⟩ := D.there
  refine call_cls I.F B.X I.N hmk hi hfn fun y dx h1 F1 N1 hlt hyd => ?_
  have I1 : Inv G' h₀ L h1 m own fr aux W ρ := I.keep F1 fun p hp => N1 p (.tail _ (.tail _ hp))
  have hc : Fresh h₀ L h1 own fr W [(y, instObj G.ipC dx), (dx, dictOf [] 0)] := ⟨fun p hp => N1 p (by
      rcases List.mem_cons.mp hp with rfl | hp
      · exact .head _
      · rw [List.mem_singleton.mp hp]; exact .tail _ (.head _)), by
      show [y, dx].Nodup
      simp only [List.nodup_cons, List.mem_singleton, List.not_mem_nil, not_false_eq_true, List.nodup_nil, and_true]
      exact Nat.ne_of_gt hyd, fun p hp r hr' e => by
      have hr2 : r.1 < dx := hlt r (List.mem_append_left _ hr')
      rcases List.mem_cons.mp hp with rfl | hp
      · exact absurd e (Nat.ne_of_gt (Nat.lt_trans hr2 hyd))
      · rw [List.mem_singleton.mp hp] at e; exact absurd e (Nat.ne_of_gt hr2), fun p hp hW => by
      obtain ⟨o, hoW⟩ := I.live _ hW
      have hr2 : p.1 < dx := hlt (p.1, o) (List.mem_append_right _ hoW)
      rcases List.mem_cons.mp hp with rfl | hp
      · exact absurd (Nat.lt_trans hr2 hyd) (Nat.lt_irrefl _)
      · rw [List.mem_singleton.mp hp] at hr2; exact absurd hr2 (Nat.lt_irrefl _)⟩
  obtain ⟨oL, hoL, hnf⟩ := ns_obj (s := { s with heap := h1 }) I1
  obtain ⟨p, loose, mg, mb, T⟩ := B.T
  have hlv : (Value.ref y :: vs).length = (sfN :: names').length := by rw [List.length_cons, List.length_cons, d.length, hln]
  have hbd := hb (.ref y :: vs) hlv { s with heap := h1 } (B.X.keeps F1.keep)
  have eU : (A.under (.builtin "type.__call__" ⟨.ref G.ipC :: vs, []⟩)).units = A.units + 1 := by kernel_rfl
  have eF : (A.under (.builtin "type.__call__" ⟨.ref G.ipC :: vs, []⟩)).frames = A.frames := by
    show pushEnvs (Code.envs (.builtin "type.__call__" ⟨.ref G.ipC :: vs, []⟩)) A.frames = A.frames
    rw [show Code.envs (.builtin "type.__call__" ⟨.ref G.ipC :: vs, []⟩) = [] from by kernel_rfl]
    rfl
  have hr' : Room (A.under (.builtin "type.__call__" ⟨.ref G.ipC :: vs, []⟩)) (n + 1) :=
    ⟨by have := hr.depth; show A.depth + 1 + (n + 1) ≤ 1000; lia, by have := hr.units; rw [eU]; lia, hr.hh⟩
  have hS0 : Stack (A.under (.builtin "type.__call__" ⟨.ref G.ipC :: vs, []⟩)) G' L l := ⟨by rw [eF]; exact S.is, S.top, S.kinds⟩
  refine codeAny_call_def (s := { s with heap := h1 }) (fd := fnOf name qual params body scope dV kV doc pm an cdv ct) (body := body) (binds := (sfN :: names').zip (.ref y :: vs)) (by have := hr'.depth; show (A.under _).depth < 1000; lia) (F1.keep _ _ (B.X _ _ ho)) rfl (T.nolimit.keeps F1.keep) (codeRec_of (B.X.keeps F1.keep) D.code) rfl hbd D.cell (fun x hx => D.loc _ (List.of_mem_zip hx).1) (fun h2 n2 k2 => ?_) D.co D.gen D.kind
  have lk : ∀ x v, (x, v) ∈ (sfN :: names').zip (.ref y :: vs) → (fun x => ((sfN :: names').zip (.ref y :: vs)).reverse.lookup x) x = some v := fun x v hm =>
    lookup_mem (by rw [List.map_reverse, zip_keys hlv.symm]; exact (List.reverse_perm _).nodup_iff.mpr D.nd) (List.mem_reverse.mpr hm)
  have loc : LocR (below G' L fr) (PF h₀ fr) (fun x => ((sfN :: names').zip (.ref y :: vs)).reverse.lookup x) ((sfN, .mu (.ip [])) :: names'.zip (ts.map Slot.val)) [(y, instObj G.ipC dx), (dx, dictOf [] 0)] := by
    have hcell : Cell (below G' L fr) (PF h₀ fr) (.ip []) (.ref y) [(y, instObj G'.ipC dx), (dx, dictOf (ipEs G'.pm ipNames [] []) 0)] := .ip (vs := []) (ts := []) (n := 0) rfl rfl (Nat.zero_le _)
    rw [← k.ipC] at hcell
    have := LocR.cons (x := sfN) (m := fun x => ((sfN :: names').zip (.ref y :: vs)).reverse.lookup x) (lk sfN (.ref y) (by simp)) (.mu hcell) (loc_args (names := names') (d.like (like_below G' L fr)) hln.symm fun z u hz => lk z u (by simp [hz]))
    exact List.append_nil [(y, instObj G.ipC dx), (dx, dictOf [] 0)] ▸ this
  have nd1 : (((sfN, Slot.mu (.ip [])) :: names'.zip (ts.map Slot.val)).map (·.1)).Nodup := by
    have := D.nd
    rw [List.map_cons, zip_keys (by simpa using hln.symm)]
    exact this
  have J := enter_new (s := { s with heap := h1 }) I1 hoL hnf n2 k2 hc nd1 loc
  have hS := stack_deeper (L' := h1.objs.size) (f := fI) (cd := cdv) (q := qual) (fr := fr) hS0 D.kind
  have H := R (hr'.deeper _) hS (k.trans (like_below G' L fr))
  refine soundB H body (kp := [sfN]) (s := { s with heap := h2, toks := s.toks + ((sfN :: names').zip (Value.ref y :: vs)).length }) ok hw J PassesOwn.leaving (fun fl fv h' tk' m' own' fr' ρ' km J' f' r qq => ?_) fun m' e h' tk' own' fr' ρ' C y he hX => hX.elim
  cases r with
  | cont => exact qq.elim
  | ret dv => exact qq.elim
  | retm _ _ => exact qq.elim
  | next =>
    obtain ⟨t', hl', hq'⟩ := qq
    obtain ⟨v', c', hv', hc', hcm', hcn'⟩ := J'.cell hl'
    rw [km sfN (.head _), lk sfN (.ref y) (by simp)] at hv'
    cases hv'
    obtain ⟨I', fr1⟩ := leave_inv (s := { s with heap := h1 }) I1 hoL J' J'.hold
    exact ⟨rfl, q _ h' tk' fr' _ c' I' J'.hold (hc'.like (like_below G' L fr).symm) (fr1 c' hcm' hcn') hq'⟩
end
end Mine
end
section
open PySem PySem.W PyProof.Rows
set_option Elab.async false
namespace Mine
set_option maxRecDepth 100000
noncomputable abbrev prg : Program := PySem.Challenge.pw_pf0339_01
noncomputable def fnAt (i : Nat) : Arguments × List Stmt × Scope := match prg.main.body[i]? with
  | some (.FunctionDef _ a b _ _ _ sc _ _ _) => (a, b, sc)
  | _ => default
noncomputable def clsFn (i : Nat) : Arguments × List Stmt × Scope := match prg.main.body[i]? with
  | some (.ClassDef _ _ _ (.FunctionDef _ a b _ _ _ sc _ _ _ :: _) _ _ _ _ _ _ _) => (a, b, sc)
  | _ => default
noncomputable def fnO (name qual : PySem.Str) (x : Arguments × List Stmt × Scope) (dV pym : Value) (cd : Addr) : Obj :=
  { cls := .type "function", data := .func (fnOf name qual x.1 x.2.1 x.2.2 dV .none .none pym none (.ref cd) .none) }
noncomputable def codeO (l : List Value) : Obj := { cls := .type "code", data := .fields l.toArray }
noncomputable def ent (pm : Params) (x : PySem.Str) (t : Tok) (v : Value) : DictEntry := ⟨PyData.keyHash pm x, .str x t, v⟩
noncomputable def kf (pm : Params) : Frag := [
  (3, dictOf [ent pm "__name__" 165 (.str "law_pf0339_01" 418), ent pm "__doc__" 166 (.none), ent pm "__package__" 167 (.none), ent pm "__loader__" 168 (.builtin "__main__.__loader__#opaque"), ent pm "__spec__" 169 (.none), ent pm "__annotations__" 170 (.ref 6), ent pm "__builtins__" 171 (.ref 4), ent pm "__file__" 173 (.str "/claim/cut.py" 172), ent pm "__cached__" 174 (.none), ent pm "WallFault" 218 (.ref 31), ent pm "Misused" 234 (.ref 44), ent pm "BadPacket" 250 (.ref 56), ent pm "number_of" 261 (.ref 65), ent pm "octets_of" 267 (.ref 70), ent pm "pad4" 274 (.ref 77), ent pm "folded" 281 (.ref 84), ent pm "sum16" 292 (.ref 92), ent pm "check_of" 301 (.ref 100), ent pm "Ip4" 345 (.ref 117), ent pm "head_of" 354 (.ref 128), ent pm "read_ipv4" 365 (.ref 135), ent pm "total_of" 372 (.ref 142), ent pm "check_lengths" 379 (.ref 149), ent pm "write_ipv4" 389 (.ref 156), ent pm "options_of" 398 (.ref 163), ent pm "write_options" 408 (.ref 170), ent pm "look4" 417 (.ref 177), ent pm "_law_digit" 427 (.ref 184), ent pm "_law_field" 438 (.ref 191), ent pm "_law_some" 449 (.ref 198), ent pm "_law_row" 455 (.ref 203), ent pm "_law_whole" 464 (.ref 210), ent pm "_law_head" 484 (.ref 217), ent pm "_law_due_written" 496 (.ref 224), ent pm "_law_written" 507 (.ref 231), ent pm "_law_due_fields" 519 (.ref 238), ent pm "_law_fields" 529 (.ref 245), ent pm "_law_due_look" 537 (.ref 252), ent pm "_law_hurt" 547 (.ref 259), ent pm "_law_any" 564 (.ref 266), ent pm "_law_drawn_options" 576 (.ref 273), ent pm "_law_options_octets" 586 (.ref 280), ent pm "_law_due_options" 595 (.ref 287), ent pm "_law_options_hold" 608 (.ref 294), ent pm "law" 626 (.ref 301)] 45),
  (27, codeO [.str "__init__" 201, .str "WallFault.__init__" 202, .str "/claim/cut.py" 203, .int 4 0, .int 2 0, .int 0 0, .int 0 0, .int 3 0, .ref 22, .bool true, .int 181 0, .ref 23, .none, .ref 24, .ref 25, .ref 26, .int 206 0, .int 4 0, .str "/claim/cut.py" 207]),
  (28, fnO "__init__" "WallFault.__init__" (clsFn 1) (.none) (.str "siftwall.faults" 187) 27),
  (30, dictOf [ent pm "__module__" 196 (.str "siftwall.faults" 187), ent pm "__firstlineno__" 200 (.int 2 199), ent pm "__init__" 208 (.ref 28), ent pm "__static_attributes__" 211 (.ref 29), ent pm "__weakref__" 213 (.ref 32), ent pm "__doc__" 214 (.none)] 3),
  (31, { cls := .type "type", data := .cls { name := "WallFault", bases := [.type "Exception"], mro := [.ref 31, .type "Exception", .type "BaseException", .type "object"], ns := 30, qualname := "WallFault", subclasses := [.ref 44, .ref 56] }, slots := #[some (.ref 15), none, some (.str "WallFault" 189), some (.str "WallFault" 197), some (.builtin "Exception.__new__"), some (.bool true)] }),
  (43, dictOf [ent pm "__module__" 226 (.str "siftwall.faults" 187), ent pm "__firstlineno__" 230 (.int 8 229), ent pm "__static_attributes__" 231 (.ref 42), ent pm "__doc__" 232 (.none)] 2),
  (44, { cls := .type "type", data := .cls { name := "Misused", bases := [.ref 31], mro := [.ref 44, .ref 31, .type "Exception", .type "BaseException", .type "object"], ns := 43, qualname := "Misused" }, slots := #[some (.ref 35), none, some (.str "Misused" 219), some (.str "Misused" 227), some (.builtin "Exception.__new__"), some (.bool true)] }),
  (55, dictOf [ent pm "__module__" 242 (.str "siftwall.faults" 187), ent pm "__firstlineno__" 246 (.int 10 245), ent pm "__static_attributes__" 247 (.ref 54), ent pm "__doc__" 248 (.none)] 2),
  (56, { cls := .type "type", data := .cls { name := "BadPacket", bases := [.ref 31], mro := [.ref 56, .ref 31, .type "Exception", .type "BaseException", .type "object"], ns := 55, qualname := "BadPacket" }, slots := #[some (.ref 47), none, some (.str "BadPacket" 235), some (.str "BadPacket" 243), some (.builtin "Exception.__new__"), some (.bool true)] }),
  (64, codeO [.str "number_of" 253, .str "number_of" 254, .str "/claim/cut.py" 255, .int 13 0, .int 1 0, .int 0 0, .int 0 0, .int 3 0, .ref 59, .bool true, .int 181 0, .ref 60, .none, .ref 61, .ref 62, .ref 63, .int 259 0, .int 13 0, .str "/claim/cut.py" 260]),
  (65, fnO "number_of" "number_of" (fnAt 5) (.none) (.str "siftwall.octets" 251) 64),
  (69, codeO [.str "octets_of" 262, .str "octets_of" 263, .str "/claim/cut.py" 264, .int 18 0, .int 2 0, .int 0 0, .int 0 0, .int 3 0, .ref 66, .bool true, .int 181 0, .ref 67, .none, .none, .none, .ref 68, .int 265 0, .int 18 0, .str "/claim/cut.py" 266]),
  (70, fnO "octets_of" "octets_of" (fnAt 6) (.none) (.str "siftwall.octets" 251) 69),
  (76, codeO [.str "pad4" 268, .str "pad4" 269, .str "/claim/cut.py" 270, .int 22 0, .int 1 0, .int 0 0, .int 0 0, .int 3 0, .ref 71, .bool true, .int 181 0, .ref 72, .none, .ref 73, .ref 74, .ref 75, .int 272 0, .int 22 0, .str "/claim/cut.py" 273]),
  (77, fnO "pad4" "pad4" (fnAt 7) (.none) (.str "siftwall.octets" 251) 76),
  (83, codeO [.str "folded" 275, .str "folded" 276, .str "/claim/cut.py" 277, .int 24 0, .int 1 0, .int 0 0, .int 0 0, .int 3 0, .ref 78, .bool true, .int 181 0, .ref 79, .none, .ref 80, .ref 81, .ref 82, .int 279 0, .int 24 0, .str "/claim/cut.py" 280]),
  (84, fnO "folded" "folded" (fnAt 8) (.none) (.str "siftwall.octets" 251) 83),
  (85, { cls := .type "tuple", data := .seq #[.int 0 282] }),
  (91, codeO [.str "sum16" 283, .str "sum16" 284, .str "/claim/cut.py" 285, .int 28 0, .int 2 0, .int 0 0, .int 0 0, .int 3 0, .ref 86, .bool true, .int 181 0, .ref 87, .none, .ref 88, .ref 89, .ref 90, .int 290 0, .int 28 0, .str "/claim/cut.py" 291]),
  (92, fnO "sum16" "sum16" (fnAt 9) (.ref 85) (.str "siftwall.octets" 251) 91),
  (93, { cls := .type "tuple", data := .seq #[.int 0 293] }),
  (99, codeO [.str "check_of" 294, .str "check_of" 295, .str "/claim/cut.py" 296, .int 35 0, .int 2 0, .int 0 0, .int 0 0, .int 3 0, .ref 94, .bool true, .int 181 0, .ref 95, .none, .ref 96, .ref 97, .ref 98, .int 299 0, .int 35 0, .str "/claim/cut.py" 300]),
  (100, fnO "check_of" "check_of" (fnAt 10) (.ref 93) (.str "siftwall.octets" 251) 99),
  (113, codeO [.str "__init__" 316, .str "Ip4.__init__" 317, .str "/claim/cut.py" 318, .int 40 0, .int 5 0, .int 0 0, .int 0 0, .int 3 0, .ref 108, .bool true, .int 181 0, .ref 109, .none, .ref 110, .ref 111, .ref 112, .int 324 0, .int 40 0, .str "/claim/cut.py" 325]),
  (114, fnO "__init__" "Ip4.__init__" (clsFn 12) (.none) (.str "siftwall.ipv4" 302) 113),
  (116, dictOf [ent pm "__module__" 311 (.str "siftwall.ipv4" 302), ent pm "__firstlineno__" 315 (.int 38 314), ent pm "__init__" 326 (.ref 114), ent pm "__static_attributes__" 338 (.ref 115), ent pm "__dict__" 340 (.ref 118), ent pm "__weakref__" 342 (.ref 119), ent pm "__doc__" 343 (.none)] 4),
  (117, { cls := .type "type", data := .cls { name := "Ip4", bases := [.type "object"], mro := [.ref 117, .type "object"], ns := 116, qualname := "Ip4" }, slots := #[none, none, some (.str "Ip4" 304), some (.str "Ip4" 312), some (.builtin "object.__new__"), some (.bool true)] }),
  (127, codeO [.str "head_of" 346, .str "head_of" 347, .str "/claim/cut.py" 348, .int 52 0, .int 1 0, .int 0 0, .int 0 0, .int 3 0, .ref 122, .bool true, .int 181 0, .ref 123, .none, .ref 124, .ref 125, .ref 126, .int 352 0, .int 52 0, .str "/claim/cut.py" 353]),
  (128, fnO "head_of" "head_of" (fnAt 13) (.none) (.str "siftwall.ipv4" 302) 127),
  (134, codeO [.str "read_ipv4" 355, .str "read_ipv4" 356, .str "/claim/cut.py" 357, .int 66 0, .int 1 0, .int 0 0, .int 0 0, .int 3 0, .ref 129, .bool true, .int 181 0, .ref 130, .none, .ref 131, .ref 132, .ref 133, .int 363 0, .int 66 0, .str "/claim/cut.py" 364]),
  (135, fnO "read_ipv4" "read_ipv4" (fnAt 14) (.none) (.str "siftwall.ipv4" 302) 134),
  (141, codeO [.str "total_of" 366, .str "total_of" 367, .str "/claim/cut.py" 368, .int 78 0, .int 1 0, .int 0 0, .int 0 0, .int 3 0, .ref 136, .bool true, .int 181 0, .ref 137, .none, .ref 138, .ref 139, .ref 140, .int 370 0, .int 78 0, .str "/claim/cut.py" 371]),
  (142, fnO "total_of" "total_of" (fnAt 15) (.none) (.str "siftwall.ipv4" 302) 141),
  (148, codeO [.str "check_lengths" 373, .str "check_lengths" 374, .str "/claim/cut.py" 375, .int 80 0, .int 1 0, .int 0 0, .int 0 0, .int 3 0, .ref 143, .bool true, .int 181 0, .ref 144, .none, .ref 145, .ref 146, .ref 147, .int 377 0, .int 80 0, .str "/claim/cut.py" 378]),
  (149, fnO "check_lengths" "check_lengths" (fnAt 16) (.none) (.str "siftwall.ipv4" 302) 148),
  (155, codeO [.str "write_ipv4" 380, .str "write_ipv4" 381, .str "/claim/cut.py" 382, .int 87 0, .int 1 0, .int 0 0, .int 0 0, .int 3 0, .ref 150, .bool true, .int 181 0, .ref 151, .none, .ref 152, .ref 153, .ref 154, .int 387 0, .int 87 0, .str "/claim/cut.py" 388]),
  (156, fnO "write_ipv4" "write_ipv4" (fnAt 17) (.none) (.str "siftwall.ipv4" 302) 155),
  (162, codeO [.str "options_of" 390, .str "options_of" 391, .str "/claim/cut.py" 392, .int 95 0, .int 1 0, .int 0 0, .int 0 0, .int 3 0, .ref 157, .bool true, .int 181 0, .ref 158, .none, .ref 159, .ref 160, .ref 161, .int 396 0, .int 95 0, .str "/claim/cut.py" 397]),
  (163, fnO "options_of" "options_of" (fnAt 18) (.none) (.str "siftwall.ipv4" 302) 162),
  (169, codeO [.str "write_options" 399, .str "write_options" 400, .str "/claim/cut.py" 401, .int 108 0, .int 1 0, .int 0 0, .int 0 0, .int 3 0, .ref 164, .bool true, .int 181 0, .ref 165, .none, .ref 166, .ref 167, .ref 168, .int 406 0, .int 108 0, .str "/claim/cut.py" 407]),
  (170, fnO "write_options" "write_options" (fnAt 19) (.none) (.str "siftwall.ipv4" 302) 169),
  (176, codeO [.str "look4" 409, .str "look4" 410, .str "/claim/cut.py" 411, .int 115 0, .int 1 0, .int 0 0, .int 0 0, .int 3 0, .ref 171, .bool true, .int 181 0, .ref 172, .none, .ref 173, .ref 174, .ref 175, .int 415 0, .int 115 0, .str "/claim/cut.py" 416]),
  (177, fnO "look4" "look4" (fnAt 20) (.none) (.str "siftwall.ipv4" 302) 176),
  (183, codeO [.str "_law_digit" 420, .str "_law_digit" 421, .str "/claim/cut.py" 422, .int 124 0, .int 2 0, .int 0 0, .int 0 0, .int 3 0, .ref 178, .bool true, .int 181 0, .ref 179, .none, .ref 180, .ref 181, .ref 182, .int 425 0, .int 124 0, .str "/claim/cut.py" 426]),
  (184, fnO "_law_digit" "_law_digit" (fnAt 22) (.none) (.str "law_pf0339_01" 418) 183),
  (190, codeO [.str "_law_field" 428, .str "_law_field" 429, .str "/claim/cut.py" 430, .int 126 0, .int 4 0, .int 0 0, .int 0 0, .int 3 0, .ref 185, .bool true, .int 181 0, .ref 186, .none, .ref 187, .ref 188, .ref 189, .int 436 0, .int 126 0, .str "/claim/cut.py" 437]),
  (191, fnO "_law_field" "_law_field" (fnAt 23) (.none) (.str "law_pf0339_01" 418) 190),
  (197, codeO [.str "_law_some" 439, .str "_law_some" 440, .str "/claim/cut.py" 441, .int 131 0, .int 3 0, .int 0 0, .int 0 0, .int 3 0, .ref 192, .bool true, .int 181 0, .ref 193, .none, .ref 194, .ref 195, .ref 196, .int 447 0, .int 131 0, .str "/claim/cut.py" 448]),
  (198, fnO "_law_some" "_law_some" (fnAt 24) (.none) (.str "law_pf0339_01" 418) 197),
  (202, codeO [.str "_law_row" 450, .str "_law_row" 451, .str "/claim/cut.py" 452, .int 137 0, .int 2 0, .int 0 0, .int 0 0, .int 3 0, .ref 199, .bool true, .int 181 0, .ref 200, .none, .none, .none, .ref 201, .int 453 0, .int 137 0, .str "/claim/cut.py" 454]),
  (203, fnO "_law_row" "_law_row" (fnAt 25) (.none) (.str "law_pf0339_01" 418) 202),
  (209, codeO [.str "_law_whole" 456, .str "_law_whole" 457, .str "/claim/cut.py" 458, .int 143 0, .int 1 0, .int 0 0, .int 0 0, .int 3 0, .ref 204, .bool true, .int 181 0, .ref 205, .none, .ref 206, .ref 207, .ref 208, .int 462 0, .int 143 0, .str "/claim/cut.py" 463]),
  (210, fnO "_law_whole" "_law_whole" (fnAt 26) (.none) (.str "law_pf0339_01" 418) 209),
  (216, codeO [.str "_law_head" 465, .str "_law_head" 466, .str "/claim/cut.py" 467, .int 148 0, .int 3 0, .int 0 0, .int 0 0, .int 3 0, .ref 211, .bool true, .int 181 0, .ref 212, .none, .ref 213, .ref 214, .ref 215, .int 482 0, .int 148 0, .str "/claim/cut.py" 483]),
  (217, fnO "_law_head" "_law_head" (fnAt 27) (.none) (.str "law_pf0339_01" 418) 216),
  (223, codeO [.str "_law_due_written" 485, .str "_law_due_written" 486, .str "/claim/cut.py" 487, .int 158 0, .int 3 0, .int 0 0, .int 0 0, .int 3 0, .ref 218, .bool true, .int 181 0, .ref 219, .none, .ref 220, .ref 221, .ref 222, .int 494 0, .int 158 0, .str "/claim/cut.py" 495]),
  (224, fnO "_law_due_written" "_law_due_written" (fnAt 28) (.none) (.str "law_pf0339_01" 418) 223),
  (230, codeO [.str "_law_written" 497, .str "_law_written" 498, .str "/claim/cut.py" 499, .int 169 0, .int 3 0, .int 0 0, .int 0 0, .int 3 0, .ref 225, .bool true, .int 181 0, .ref 226, .none, .ref 227, .ref 228, .ref 229, .int 505 0, .int 169 0, .str "/claim/cut.py" 506]),
  (231, fnO "_law_written" "_law_written" (fnAt 29) (.none) (.str "law_pf0339_01" 418) 230),
  (237, codeO [.str "_law_due_fields" 508, .str "_law_due_fields" 509, .str "/claim/cut.py" 510, .int 184 0, .int 1 0, .int 0 0, .int 0 0, .int 3 0, .ref 232, .bool true, .int 181 0, .ref 233, .none, .ref 234, .ref 235, .ref 236, .int 517 0, .int 184 0, .str "/claim/cut.py" 518]),
  (238, fnO "_law_due_fields" "_law_due_fields" (fnAt 30) (.none) (.str "law_pf0339_01" 418) 237),
  (244, codeO [.str "_law_fields" 520, .str "_law_fields" 521, .str "/claim/cut.py" 522, .int 203 0, .int 1 0, .int 0 0, .int 0 0, .int 3 0, .ref 239, .bool true, .int 181 0, .ref 240, .none, .ref 241, .ref 242, .ref 243, .int 527 0, .int 203 0, .str "/claim/cut.py" 528]),
  (245, fnO "_law_fields" "_law_fields" (fnAt 31) (.none) (.str "law_pf0339_01" 418) 244),
  (251, codeO [.str "_law_due_look" 530, .str "_law_due_look" 531, .str "/claim/cut.py" 532, .int 210 0, .int 1 0, .int 0 0, .int 0 0, .int 3 0, .ref 246, .bool true, .int 181 0, .ref 247, .none, .ref 248, .ref 249, .ref 250, .int 535 0, .int 210 0, .str "/claim/cut.py" 536]),
  (252, fnO "_law_due_look" "_law_due_look" (fnAt 32) (.none) (.str "law_pf0339_01" 418) 251),
  (258, codeO [.str "_law_hurt" 538, .str "_law_hurt" 539, .str "/claim/cut.py" 540, .int 217 0, .int 2 0, .int 0 0, .int 0 0, .int 3 0, .ref 253, .bool true, .int 181 0, .ref 254, .none, .ref 255, .ref 256, .ref 257, .int 545 0, .int 217 0, .str "/claim/cut.py" 546]),
  (259, fnO "_law_hurt" "_law_hurt" (fnAt 33) (.none) (.str "law_pf0339_01" 418) 258),
  (265, codeO [.str "_law_any" 548, .str "_law_any" 549, .str "/claim/cut.py" 550, .int 234 0, .int 1 0, .int 0 0, .int 0 0, .int 3 0, .ref 260, .bool true, .int 181 0, .ref 261, .none, .ref 262, .ref 263, .ref 264, .int 562 0, .int 234 0, .str "/claim/cut.py" 563]),
  (266, fnO "_law_any" "_law_any" (fnAt 34) (.none) (.str "law_pf0339_01" 418) 265),
  (272, codeO [.str "_law_drawn_options" 565, .str "_law_drawn_options" 566, .str "/claim/cut.py" 567, .int 261 0, .int 1 0, .int 0 0, .int 0 0, .int 3 0, .ref 267, .bool true, .int 181 0, .ref 268, .none, .ref 269, .ref 270, .ref 271, .int 574 0, .int 261 0, .str "/claim/cut.py" 575]),
  (273, fnO "_law_drawn_options" "_law_drawn_options" (fnAt 35) (.none) (.str "law_pf0339_01" 418) 272),
  (279, codeO [.str "_law_options_octets" 577, .str "_law_options_octets" 578, .str "/claim/cut.py" 579, .int 269 0, .int 1 0, .int 0 0, .int 0 0, .int 3 0, .ref 274, .bool true, .int 181 0, .ref 275, .none, .ref 276, .ref 277, .ref 278, .int 584 0, .int 269 0, .str "/claim/cut.py" 585]),
  (280, fnO "_law_options_octets" "_law_options_octets" (fnAt 36) (.none) (.str "law_pf0339_01" 418) 279),
  (286, codeO [.str "_law_due_options" 587, .str "_law_due_options" 588, .str "/claim/cut.py" 589, .int 276 0, .int 1 0, .int 0 0, .int 0 0, .int 3 0, .ref 281, .bool true, .int 181 0, .ref 282, .none, .ref 283, .ref 284, .ref 285, .int 593 0, .int 276 0, .str "/claim/cut.py" 594]),
  (287, fnO "_law_due_options" "_law_due_options" (fnAt 37) (.none) (.str "law_pf0339_01" 418) 286),
  (293, codeO [.str "_law_options_hold" 596, .str "_law_options_hold" 597, .str "/claim/cut.py" 598, .int 284 0, .int 1 0, .int 0 0, .int 0 0, .int 3 0, .ref 288, .bool true, .int 181 0, .ref 289, .none, .ref 290, .ref 291, .ref 292, .int 606 0, .int 284 0, .str "/claim/cut.py" 607]),
  (294, fnO "_law_options_hold" "_law_options_hold" (fnAt 38) (.none) (.str "law_pf0339_01" 418) 293),
  (300, codeO [.str "law" 609, .str "law" 610, .str "/claim/cut.py" 611, .int 300 0, .int 1 0, .int 0 0, .int 0 0, .int 3 0, .ref 295, .bool true, .int 181 0, .ref 296, .none, .ref 297, .ref 298, .ref 299, .int 624 0, .int 300 0, .str "/claim/cut.py" 625]),
  (301, fnO "law" "law" (fnAt 39) (.none) (.str "law_pf0339_01" 418) 300)
]
noncomputable def kAs : List Addr := [3, 27, 28, 30, 31, 43, 44, 55, 56, 64, 65, 69, 70, 76, 77, 83, 84, 85, 91, 92, 93, 99, 100, 113, 114, 116, 117, 127, 128, 134, 135, 141, 142, 148, 149, 155, 156, 162, 163, 169, 170, 176, 177, 183, 184, 190, 191, 197, 198, 202, 203, 209, 210, 216, 217, 223, 224, 230, 231, 237, 238, 244, 245, 251, 252, 258, 259, 265, 266, 272, 273, 279, 280, 286, 287, 293, 294, 300, 301]
theorem kAs_eq (pm : Params) : kAs = (kf pm).map (·.1) := rfl
noncomputable abbrev hook : Hook := kHook kf kAs kAs_eq
noncomputable def qv : Program := view prg [39]
noncomputable def lo : List PySem.Str := [(("WallFault" : PySem.Str)), (("Misused" : PySem.Str)), (("BadPacket" : PySem.Str)), (("number_of" : PySem.Str)), (("octets_of" : PySem.Str)), (("pad4" : PySem.Str)), (("folded" : PySem.Str)), (("sum16" : PySem.Str)), (("check_of" : PySem.Str)), (("Ip4" : PySem.Str)), (("head_of" : PySem.Str)), (("read_ipv4" : PySem.Str)), (("total_of" : PySem.Str)), (("check_lengths" : PySem.Str)), (("write_ipv4" : PySem.Str)), (("options_of" : PySem.Str)), (("write_options" : PySem.Str)), (("look4" : PySem.Str)), (("_law_digit" : PySem.Str)), (("_law_field" : PySem.Str)), (("_law_some" : PySem.Str)), (("_law_row" : PySem.Str)), (("_law_whole" : PySem.Str)), (("_law_head" : PySem.Str)), (("_law_due_written" : PySem.Str)), (("_law_written" : PySem.Str)), (("_law_due_fields" : PySem.Str)), (("_law_fields" : PySem.Str)), (("_law_due_look" : PySem.Str)), (("_law_hurt" : PySem.Str)), (("_law_any" : PySem.Str)), (("_law_drawn_options" : PySem.Str)), (("_law_options_octets" : PySem.Str)), (("_law_due_options" : PySem.Str)), (("_law_options_hold" : PySem.Str))]
end Mine
end
section
open PySem PySem.W PyProof.Rows
set_option Elab.async false
namespace Mine
set_option maxRecDepth 1000000
set_option maxHeartbeats 0
theorem head (w : World) : (openEnds treeTable prg w 4038).map (fun s => (openSeen qv lo (importedModules prg.main.body) (fun s => xlAt qv [] s && recOk [] s) true s, Hook.obs hook s)) = some (openGood qv lo, Hook.val hook w) := by kernel_rfl
end Mine
end
section
open PySem PySem.W PySem.Spec PySem.Calls PyProof.Rows
set_option Elab.async false
namespace Mine
set_option tactic.hygienic false
set_option maxRecDepth 100000
noncomputable def g0 (pm : Params) : Wo := { pm := pm, ipC := 117, exC := [44, 56] }

theorem gvk_ref {K : Frag} {x : PySem.Str} {a : Addr} (h : nsIn K mainGlobals x = some (some (.ref a))) (k : keepIn K (.ref a) = true) : gvP K x = some (.ref a) := by
  unfold gvP gvK; rw [h]; dsimp only; rw [if_pos k]
theorem gvk_boot {K : Frag} {x : PySem.Str} {v : Value} (h : nsIn K mainGlobals x = some none) (n : (x == "__name__") = false) (b : bootBuiltins x = some v) (hv : ∀ a, v ≠ .ref a) : gvP K x = some v := by
  unfold gvP gvK; rw [h]; dsimp only; rw [n, if_neg Bool.false_ne_true, b]
  cases v <;> first | rfl | exact absurd rfl (hv _)

section
variable (pm : Params)
theorem k_ip : IpK (kf pm) 117 := ⟨⟨_, rfl, rfl, fun self => refuse_only self rfl⟩, by kernel_rfl, by kernel_rfl, fun a => by kernel_rfl, fun a ha => by
  simp only [ipNames, List.mem_cons, List.not_mem_nil, or_false] at ha
  rcases ha with rfl | rfl | rfl | rfl | rfl | rfl | rfl | rfl | rfl | rfl | rfl <;> kernel_rfl⟩
theorem k_range : gvP (kf pm) "range" = some (.type "range") := gvk_boot (by kernel_rfl) (by decide +kernel) (by kernel_rfl) fun a e => nomatch e
theorem k_built {f : PySem.Str} (h : isBuilt f = true) : gvP (kf pm) f = some (builtV f) := by
  simp only [isBuilt, Bool.or_eq_true, beq_iff_eq] at h
  rcases h with (rfl | rfl) | rfl
  · exact gvk_boot (v := .builtin "len") (by kernel_rfl) (by decide +kernel) (by kernel_rfl) fun a e => nomatch e
  · exact gvk_boot (v := .type "bytes") (by kernel_rfl) (by decide +kernel) (by kernel_rfl) fun a e => nomatch e
  · exact gvk_boot (v := .type "list") (by kernel_rfl) (by decide +kernel) (by kernel_rfl) fun a e => nomatch e

noncomputable def defOk (K : Frag) (cd : Addr) (qual : PySem.Str) (names : List PySem.Str) (sc : Scope) : Bool :=
  codeIn K (.ref cd) qual && decide names.Nodup && (names.all fun x => decide (sc.names.lookup x = some .local)) && (sc.names.all fun x => decide (x.2 ≠ .cell)) && decide (sc.kind = .function) && !sc.isCoroutine && !sc.isGenerator

noncomputable abbrev fnF (name qual : PySem.Str) (x : Arguments × List Stmt × Scope) (dV pym : Value) (cd : Addr) : FuncData := fnOf name qual x.1 x.2.1 x.2.2 dV .none .none pym none (.ref cd) .none

theorem c_defW {K : Frag} {f : Addr} {name qual : PySem.Str} {x : Arguments × List Stmt × Scope} {dV pym : Value} {cd : Addr} {names : List PySem.Str} {fill : List Tr → Option (List Tr)} (hl : K.lookup f = some (fnO name qual x dV pym cd)) (ok : defOk K cd qual names x.2.2 = true)
    (hb : ∀ vs, vs.length = names.length → ∀ s : Shared, K.In s.heap → BindsTo s (fnF name qual x dV pym cd) ⟨vs, []⟩ (names.zip vs))
    (hf : ∀ (G : Wo) (P : Facts) ts vs full, fill ts = some full → DenL G P ts vs → ∃ vs', DenL G P full vs' ∧ full.length = names.length ∧ ∀ s : Shared, K.In s.heap → BindsTo s (fnF name qual x dV pym cd) ⟨vs, []⟩ (names.zip vs')) :
    Def K f qual x.2.1 x.2.2 (.ref cd) names fill := by
  simp only [defOk, Bool.and_eq_true, decide_eq_true_eq, List.all_eq_true, Bool.not_eq_true'] at ok
  obtain ⟨⟨⟨⟨⟨⟨o1, o2⟩, o3⟩, o4⟩, o5⟩, o6⟩, o7⟩ := ok
  exact ⟨⟨name, x.1, dV, .none, .none, pym, .none, _, none, none, _, hl, hf, fun vs h s X => hb vs h s X⟩, o1, o2, o3, o4, o5, o6, o7⟩
theorem c_def {K : Frag} {f : Addr} {name qual : PySem.Str} {x : Arguments × List Stmt × Scope} {dV pym : Value} {cd : Addr} {names : List PySem.Str} (hl : K.lookup f = some (fnO name qual x dV pym cd)) (ok : defOk K cd qual names x.2.2 = true)
    (hb : ∀ vs, vs.length = names.length → bindArgs (fnF name qual x dV pym cd) ⟨vs, []⟩ = pure (names.zip vs)) :
    Def K f qual x.2.1 x.2.2 (.ref cd) names (fun ts => if ts.length = names.length then some ts else none) :=
  c_defW hl ok (fun vs h s _ => BindsTo.of_eq (hb vs h)) fun G P ts vs full hf d => by
    by_cases h : ts.length = names.length
    · rw [if_pos h] at hf
      cases hf
      exact ⟨vs, d, h, fun s _ => BindsTo.of_eq (hb vs (d.length.trans h))⟩
    · rw [if_neg h] at hf
      cases hf
theorem lenS {n : Nat} {vs : List Value} (h : vs.length = n + 1) : ∃ a r, vs = a :: r ∧ r.length = n := by
  cases vs with
  | nil => exact absurd h.symm (Nat.succ_ne_zero n)
  | cons a r => exact ⟨a, r, rfl, Nat.succ.inj h⟩
theorem len1 {vs : List Value} (h : vs.length = 1) : ∃ a, vs = [a] := by
  replace h := lenS h
  obtain ⟨a, r, rfl, h⟩ := h
  obtain rfl := List.eq_nil_of_length_eq_zero h
  exact ⟨a, rfl⟩
theorem len2 {vs : List Value} (h : vs.length = 2) : ∃ a b, vs = [a, b] := by
  replace h := lenS h
  obtain ⟨a, r, rfl, h⟩ := h
  replace h := len1 h
  obtain ⟨b, rfl⟩ := h
  exact ⟨a, b, rfl⟩
theorem len3 {vs : List Value} (h : vs.length = 3) : ∃ a b c, vs = [a, b, c] := by
  replace h := lenS h
  obtain ⟨a, r, rfl, h⟩ := h
  replace h := len2 h
  obtain ⟨b, c, rfl⟩ := h
  exact ⟨a, b, c, rfl⟩
theorem len4 {vs : List Value} (h : vs.length = 4) : ∃ a b c d, vs = [a, b, c, d] := by
  replace h := lenS h
  obtain ⟨a, r, rfl, h⟩ := h
  replace h := len3 h
  obtain ⟨b, c, d, rfl⟩ := h
  exact ⟨a, b, c, d, rfl⟩
theorem len5 {vs : List Value} (h : vs.length = 5) : ∃ a b c d e, vs = [a, b, c, d, e] := by
  replace h := lenS h
  obtain ⟨a, r, rfl, h⟩ := h
  replace h := len4 h
  obtain ⟨b, c, d, e, rfl⟩ := h
  exact ⟨a, b, c, d, e, rfl⟩

theorem d_init : Def (kf pm) 28 "WallFault.__init__" (clsFn 1).2.1 (clsFn 1).2.2 (.ref 27) ["self", "why"] (fun ts => if ts.length = 2 then some ts else none) :=
  c_def (name := "__init__") (dV := .none) (pym := .str "siftwall.faults" 187) (x := clsFn 1) (names := ["self", "why"]) (by kernel_rfl) (by kernel_rfl) fun vs h => by
    replace h := len2 h
    obtain ⟨a, b, rfl⟩ := h
    kernel_rfl

theorem over44 : OverExc [.ref 31, .type "Exception", .type "BaseException", .type "object"] := ⟨by decide +kernel, by decide +kernel, by decide +kernel, by decide +kernel⟩
theorem k44 : ExcK (kf pm) 44 := ⟨⟨_, rfl, rfl, fun self => by kernel_rfl⟩, by kernel_rfl, by kernel_rfl, by kernel_rfl, by kernel_rfl, by kernel_rfl, by kernel_rfl, by kernel_rfl⟩
theorem k56 : ExcK (kf pm) 56 := ⟨⟨_, rfl, rfl, fun self => by kernel_rfl⟩, by kernel_rfl, by kernel_rfl, by kernel_rfl, by kernel_rfl, by kernel_rfl, by kernel_rfl, by kernel_rfl⟩
theorem x44 : ExcCls (kf pm) 44 28 := ⟨k44 pm, ⟨⟨"Misused", "Misused", 43, [.ref 31], [.ref 31, .type "Exception", .type "BaseException", .type "object"], true, [], [], false, none, none, some (.ref 35), none, some (.str "Misused" 219), some (.str "Misused" 227), some (.bool true)⟩, by kernel_rfl, over44⟩, by kernel_rfl⟩
theorem x56 : ExcCls (kf pm) 56 28 := ⟨k56 pm, ⟨⟨"BadPacket", "BadPacket", 55, [.ref 31], [.ref 31, .type "Exception", .type "BaseException", .type "object"], true, [], [], false, none, none, some (.ref 47), none, some (.str "BadPacket" 235), some (.str "BadPacket" 243), some (.bool true)⟩, by kernel_rfl, over44⟩, by kernel_rfl⟩
end
end Mine
end
section
open PySem PySem.W PySem.Spec PySem.Calls PyProof.Rows
set_option Elab.async false
namespace Mine
set_option tactic.hygienic false
set_option maxRecDepth 100000
noncomputable def initPs (i : Nat) : Pos := ([⟨5, 8, 5, 17⟩, ⟨5, 8, 5, 26⟩, ⟨5, 27, 5, 31⟩, ⟨5, 33, 5, 36⟩, ⟨5, 8, 5, 37⟩, ⟨5, 8, 5, 37⟩, ⟨6, 8, 6, 12⟩, ⟨6, 8, 6, 16⟩, ⟨6, 19, 6, 22⟩, ⟨6, 8, 6, 22⟩, ⟨7, 8, 7, 12⟩, ⟨7, 8, 7, 15⟩, ⟨7, 19, 7, 20⟩, ⟨7, 18, 7, 20⟩, ⟨7, 8, 7, 20⟩] : List Pos).getD i ⟨0, 0, 0, 0⟩
theorem init_body : (clsFn 1).2.1 = initBody initPs 0 := by kernel_rfl
section
variable (pm : Params)
theorem k_init : InitK (kf pm) 28 := ⟨⟨"WallFault.__init__", initPs, 0, (clsFn 1).2.2, .ref 27, init_body ▸ d_init pm, by kernel_rfl, by kernel_rfl, by kernel_rfl, fun env => ⟨_, rfl⟩⟩, by kernel_rfl, ⟨_, rfl, rfl⟩, by kernel_rfl⟩

theorem lib {w : World} {h₀ : Heap} (B : Base prg w (kf w.params) h₀) : Lib prg w (kf w.params) (g0 w.params) h₀ where
  B := B
  pm := rfl
  ip := k_ip _
  ipd := by kernel_rfl
  ex := fun c hc => by
    rcases List.mem_cons.mp hc with rfl | hc
    · exact ⟨k44 _, ⟨28, x44 _, k_init _⟩, by kernel_rfl⟩
    · rw [List.mem_singleton.mp hc]
      exact ⟨k56 _, ⟨28, x56 _, k_init _⟩, by kernel_rfl⟩
  rng := k_range _
  built := k_built _
noncomputable def exM (f : PySem.Str) : Option Addr := if f == "Misused" then some 44 else if f == "BadPacket" then some 56 else none
theorem exM_ok {w : World} {n : Nat} (h : 3 ≤ n) : ∀ f C, exM f = some C → gvK (kf w.params) f = some (.ref C) ∧ C ∈ (g0 w.params).exC ∧ 3 ≤ n := fun f C e => by
  unfold exM at e
  split at e
  · rename_i q
    cases e
    rw [beq_iff_eq.mp q]
    exact ⟨by kernel_rfl, .head _, h⟩
  · split at e
    · rename_i q
      cases e
      rw [beq_iff_eq.mp q]
      exact ⟨by kernel_rfl, .tail _ (.head _), h⟩
    · cases e
end
end Mine
end
section
open PySem PySem.W PySem.Spec PySem.Calls PyProof.Rows
set_option Elab.async false
namespace Mine
set_option tactic.hygienic false
set_option maxRecDepth 100000

theorem use {a b : Prop} (e : a = b) (h : b) : a := e ▸ h

theorem wpB_append (Γ : Sig) : ∀ (a b : List Stmt) (ρ : Loc) (Q : Fl → Loc → Prop) (X : XE), wpB Γ (a ++ b) ρ Q X = wpB Γ a ρ (fun fl ρ1 => match fl with
    | .next => wpB Γ b ρ1 Q X
    | fl => Q fl ρ1) X
  | [], b, ρ, Q, X => rfl
  | s :: r, b, ρ, Q, X => by
    show wpS Γ s ρ (fun fl ρ1 => match fl with
      | .next => wpB Γ (r ++ b) ρ1 Q X
      | fl => Q fl ρ1) X = wpS Γ s ρ (fun fl ρ1 => match fl with
      | .next => wpB Γ r ρ1 (fun fl ρ1 => match fl with
        | .next => wpB Γ b ρ1 Q X
        | fl => Q fl ρ1) X
      | fl => (match fl with
        | .next => wpB Γ b ρ1 Q X
        | fl => Q fl ρ1)) X
    congr 1
    funext fl ρ1
    cases fl with
    | next => exact wpB_append Γ r b ρ1 Q X
    | _ => rfl

noncomputable abbrev seqQ (Γ : Sig) (b : List Stmt) (Q : Fl → Loc → Prop) (X : XE) : Fl → Loc → Prop := fun fl ρ1 => match fl with
  | .next => wpB Γ b ρ1 Q X
  | fl => Q fl ρ1
/-- a body in two parts -/
theorem wpB_split {Γ : Sig} {c : List Stmt} (n : Nat) {ρ : Loc} {Q : Fl → Loc → Prop} {X : XE} (h : wpB Γ (c.take n) ρ (seqQ Γ (c.drop n) Q X) X) : wpB Γ c ρ Q X := by
  rw [← List.take_append_drop n c, wpB_append]
  exact h

noncomputable def TurnW (Γ : Sig) (tg : Expr) (body : List Stmt) (x : Tr) (ρ' : Loc) (N : Loc → Prop) (R : Tr → Loc → Prop) (M : PySem.Str → Tr → Loc → Prop) : Prop :=
  ∃ ρ2, bindT tg x ρ' = some ρ2 ∧ wpB Γ body ρ2 (fun fl ρ3 => match fl with
    | .ret t => R t ρ3
    | .retm x t => M x t ρ3
    | _ => N (dels (namesIn tg) ρ3)) (fun _ _ _ => False)
/-- a turn, the loop's names bound -/
noncomputable def TB (Γ : Sig) (tg : Expr) (body : List Stmt) (ρ2 : Loc) (N : Loc → Prop) (R : Tr → Loc → Prop) (M : PySem.Str → Tr → Loc → Prop) : Prop := wpB Γ body ρ2 (fun fl ρ3 => match fl with
    | .ret t => R t ρ3
    | .retm x t => M x t ρ3
    | _ => N (dels (namesIn tg) ρ3)) (fun _ _ _ => False)
theorem turn_of {Γ : Sig} {tg : Expr} {body : List Stmt} {x : Tr} {ρ' : Loc} {N : Loc → Prop} {R : Tr → Loc → Prop} {M : PySem.Str → Tr → Loc → Prop} {b : Prop} (ρ2 : Loc) (e : bindT tg x ρ' = some ρ2) (h : TB Γ tg body ρ2 N R M = b) (hb : b) : TurnW Γ tg body x ρ' N R M := ⟨ρ2, e, (by rw [← h] at hb; exact hb)⟩
noncomputable def ForK (Γ : Sig) (tg : Expr) (body : List Stmt) (xs : List Tr) (ρ0 : Loc) (Q : Fl → Loc → Prop) : Prop :=
  ∃ I : Nat → Loc → Prop, I 0 ρ0 ∧ (∀ i x ρ', xs[i]? = some x → I i ρ' → ∃ ρ2, bindT tg x ρ' = some ρ2 ∧ wpB Γ body ρ2 (fun fl ρ3 => match fl with
    | .ret t => Q (.ret t) ρ3
    | .retm x t => Q (.retm x t) ρ3
    | _ => I (i + 1) (dels (namesIn tg) ρ3)) (fun _ _ _ => False)) ∧ ∀ ρ', I xs.length ρ' → Q .next ρ'
theorem forK_of {Γ : Sig} {tg : Expr} {body : List Stmt} {xs : List Tr} {ρ0 : Loc} {Q : Fl → Loc → Prop} {σ : Type} (J : Nat → σ → Prop) (lo : σ → Loc) (s0 : σ) (e : ρ0 = lo s0) (h0 : J 0 s0)
    (step : ∀ i x s, xs[i]? = some x → J i s → TurnW Γ tg body x (lo s) (fun ρ3 => ∃ s', ρ3 = lo s' ∧ J (i + 1) s') (fun t ρ3 => Q (.ret t) ρ3) (fun x t ρ3 => Q (.retm x t) ρ3)) (fin : ∀ s, J xs.length s → Q .next (lo s)) : ForK Γ tg body xs ρ0 Q :=
  ⟨fun i ρ' => ∃ s, ρ' = lo s ∧ J i s, ⟨s0, e, h0⟩, fun i x ρ' hx hI => by
    obtain ⟨s, rfl, hj⟩ := hI
    exact step i x s hx hj, fun ρ' hI => by
    obtain ⟨s, rfl, hj⟩ := hI
    exact fin s hj⟩

/-- a loop whose state is told by the turn's number -/
theorem forK_st {Γ : Sig} {tg : Expr} {body : List Stmt} {xs : List Tr} {ρ0 : Loc} {Q : Fl → Loc → Prop} (st : Nat → Loc) (e : ρ0 = st 0)
    (step : ∀ i x, xs[i]? = some x → ∀ N : Loc → Prop, N (st (i + 1)) → TurnW Γ tg body x (st i) N (fun t ρ3 => Q (.ret t) ρ3) (fun y t ρ3 => Q (.retm y t) ρ3)) (fin : Q .next (st xs.length)) : ForK Γ tg body xs ρ0 Q := by
  refine forK_of (σ := Nat) (fun i s => s = i) st 0 e rfl (fun i x s hx hj => ?_) fun s hj => ?_
  · subst hj; exact step s x hx _ ⟨s + 1, rfl, rfl⟩
  · subst hj; exact fin
theorem forK_ints {Γ : Sig} {tg : Expr} {body : List Stmt} {ns : List Int} {ρ0 : Loc} {Q : Fl → Loc → Prop} (st : Nat → Loc) (e : ρ0 = st 0)
    (step : ∀ i n, ns[i]? = some n → ∀ N : Loc → Prop, N (st (i + 1)) → TurnW Γ tg body (.int n) (st i) N (fun t ρ3 => Q (.ret t) ρ3) (fun y t ρ3 => Q (.retm y t) ρ3)) (fin : Q .next (st ns.length)) : ForK Γ tg body (ns.map Tr.int) ρ0 Q := by
  refine forK_st st e (fun i x hx => ?_) (by rw [List.length_map]; exact fin)
  rw [List.getElem?_map] at hx
  obtain ⟨n, hn, rfl⟩ := Option.map_eq_some_iff.mp hx
  exact step i n hn
noncomputable def WhileK (Γ : Sig) (t : Expr) (body : List Stmt) (ρ : Loc) (Q : Fl → Loc → Prop) (X : XE) : Prop :=
  ∃ I : Nat → Loc → Prop, (∃ n, I n ρ) ∧ ∀ n ρ', I n ρ' → wpT Γ.fn t ρ' (fun c ρ1 =>
      (c = true → wpB Γ body ρ1 (fun fl ρ2 => match fl with
        | .ret t => Q (.ret t) ρ2
        | .retm x t => Q (.retm x t) ρ2
        | _ => ∃ k, k < n ∧ I k ρ2) X) ∧ (c = false → Q .next ρ1)) X
noncomputable def WTurn (Γ : Sig) (t : Expr) (body : List Stmt) (ρ' : Loc) (N : Loc → Prop) (Q : Fl → Loc → Prop) (X : XE) : Prop :=
  wpT Γ.fn t ρ' (fun c ρ1 =>
      (c = true → wpB Γ body ρ1 (fun fl ρ2 => match fl with
        | .ret t => Q (.ret t) ρ2
        | .retm x t => Q (.retm x t) ρ2
        | _ => N ρ2) X) ∧ (c = false → Q .next ρ1)) X
theorem whileK_of {Γ : Sig} {t : Expr} {body : List Stmt} {ρ : Loc} {Q : Fl → Loc → Prop} {X : XE} {σ : Type} (J : σ → Prop) (μ : σ → Nat) (lo : σ → Loc) (s0 : σ) (e : ρ = lo s0) (h0 : J s0)
    (step : ∀ s, J s → WTurn Γ t body (lo s) (fun ρ2 => ∃ s', ρ2 = lo s' ∧ J s' ∧ μ s' < μ s) Q X) : WhileK Γ t body ρ Q X := by
  refine ⟨fun n ρ' => ∃ s, ρ' = lo s ∧ J s ∧ μ s = n, ⟨μ s0, s0, e, h0, rfl⟩, fun n ρ' hI => ?_⟩
  obtain ⟨s, rfl, hj, rfl⟩ := hI
  have h := step s hj
  unfold WTurn at h
  have e : (fun ρ2 => ∃ s', ρ2 = lo s' ∧ J s' ∧ μ s' < μ s) = fun ρ2 => ∃ k, k < μ s ∧ ∃ s', ρ2 = lo s' ∧ J s' ∧ μ s' = k := by
    funext ρ2
    refine propext ⟨fun ⟨s', a, b, c⟩ => ⟨_, c, s', a, b, rfl⟩, fun ⟨k, c, s', a, b, d⟩ => ⟨s', a, b, d ▸ c⟩⟩
  rw [e] at h
  exact h

noncomputable def stAt (i j : Nat) : Stmt := (fnAt i).2.1.getD j (.Pass ⟨0, 0, 0, 0⟩)
noncomputable def forTg : Stmt → Expr
  | .For tg _ _ _ _ => tg
  | _ => .Tuple [] 0 ⟨0, 0, 0, 0⟩
noncomputable def forBody : Stmt → List Stmt
  | .For _ _ b _ _ => b
  | .While _ b _ _ => b
  | .If _ b _ _ => b
  | _ => []
noncomputable def whT : Stmt → Expr
  | .While t _ _ _ => t
  | .If t _ _ _ => t
  | _ => .Tuple [] 0 ⟨0, 0, 0, 0⟩
noncomputable def endN' (Q : Tr → Prop) : Fl → Loc → Prop := endN Q
end Mine
end
section
open PySem PySem.W PyProof.Rows
set_option Elab.async false
namespace Mine
set_option tactic.hygienic false
open Builtin (bitAnd bitOr bitNot)

theorem bn_bn (x : Int) : bitNot (bitNot x) = x := by unfold Builtin.bitNot; lia
theorem or_pp {x y : Int} (hx : 0 ≤ x) (hy : 0 ≤ y) : bitOr x y = ((x.toNat ||| y.toNat : Nat) : Int) := by
  have h1 : ¬ 0 ≤ bitNot x := by unfold Builtin.bitNot; lia
  have h2 : ¬ 0 ≤ bitNot y := by unfold Builtin.bitNot; lia
  show bitNot (bitAnd (bitNot x) (bitNot y)) = _
  rw [bitAnd_nn h1 h2, bn_bn, bn_bn, bn_bn]
theorem and_nonneg {x y : Int} (hx : 0 ≤ x) : 0 ≤ bitAnd x y := by
  by_cases hy : 0 ≤ y
  · rw [bitAnd_pp hx hy]; exact Int.natCast_nonneg _
  · rw [bitAnd_pn hx hy]
    have := @Nat.and_le_left x.toNat (bitNot y).toNat
    lia
theorem or_neg {x y : Int} (h : x < 0 ∨ y < 0) : bitOr x y < 0 := by
  show bitNot (bitAnd (bitNot x) (bitNot y)) < 0
  have key : 0 ≤ bitAnd (bitNot x) (bitNot y) := by
    rcases h with h | h
    · exact and_nonneg (by unfold Builtin.bitNot; lia)
    · rw [bitAnd_comm]; exact and_nonneg (by unfold Builtin.bitNot; lia)
  show (-(bitAnd (bitNot x) (bitNot y)) - 1 : Int) < 0
  lia
theorem or_shift {a b : Int} (k : Nat) (ha : 0 ≤ a) (hb : 0 ≤ b) (hb' : b < 2 ^ k) : bitOr (a * 2 ^ k) b = a * 2 ^ k + b := by
  have hp : (0 : Int) ≤ a * 2 ^ k := Int.mul_nonneg ha (Int.le_of_lt (Int.pow_pos (by decide)))
  obtain ⟨n, rfl⟩ := Int.eq_ofNat_of_zero_le ha
  obtain ⟨m, rfl⟩ := Int.eq_ofNat_of_zero_le hb
  have hm : m < 2 ^ k := by exact_mod_cast hb'
  rw [or_pp hp (Int.natCast_nonneg _)]
  have e : ((n : Int) * 2 ^ k).toNat = 2 ^ k * n := by
    rw [Int.mul_comm]
    have : ((2 : Int) ^ k * (n : Int)) = ((2 ^ k * n : Nat) : Int) := by norm_cast
    rw [this]; rfl
  rw [e, Int.toNat_natCast, ← Nat.two_pow_add_eq_or_of_lt hm n]
  rw [Int.mul_comm]; norm_cast
theorem and_mask {x : Int} (k : Nat) (hx : 0 ≤ x) : bitAnd x (2 ^ k - 1) = x % 2 ^ k := by
  have hp : (0 : Int) < 2 ^ k := Int.pow_pos (by decide)
  obtain ⟨n, rfl⟩ := Int.eq_ofNat_of_zero_le hx
  rw [bitAnd_pp hx (by lia)]
  have e : ((2 : Int) ^ k - 1).toNat = 2 ^ k - 1 := by
    have : ((2 : Int) ^ k) = ((2 ^ k : Nat) : Int) := by norm_cast
    rw [this]; lia
  rw [e, Int.toNat_natCast, Nat.and_two_pow_sub_one_eq_mod]
  norm_cast
theorem and_bit {x : Int} (k : Nat) (hx : 0 ≤ x) : (bitAnd x (2 ^ k) != 0) = (x / 2 ^ k % 2 == 1) := by
  obtain ⟨n, rfl⟩ := Int.eq_ofNat_of_zero_le hx
  have hp : (0 : Int) ≤ 2 ^ k := Int.le_of_lt (Int.pow_pos (by decide))
  rw [bitAnd_pp hx hp]
  have e : ((2 : Int) ^ k).toNat = 2 ^ k := by
    have : ((2 : Int) ^ k) = ((2 ^ k : Nat) : Int) := by norm_cast
    rw [this]; rfl
  rw [e, Int.toNat_natCast]
  have e2 : ((n : Int) / 2 ^ k % 2) = ((n / 2 ^ k % 2 : Nat) : Int) := by norm_cast
  rw [e2]
  have hb : n.testBit k = decide (n / 2 ^ k % 2 = 1) := Nat.testBit_eq_decide_div_mod_eq
  have ht : ∀ i, (n &&& 2 ^ k).testBit i = (n.testBit i && decide (k = i)) := fun i => by rw [Nat.testBit_and, Nat.testBit_two_pow]
  rcases Nat.mod_two_eq_zero_or_one (n / 2 ^ k) with h | h
  · have hz : n &&& 2 ^ k = 0 := Nat.eq_of_testBit_eq fun i => by
      rw [ht, Nat.zero_testBit]
      by_cases q : k = i
      · subst q; rw [hb, h]; rfl
      · rw [decide_eq_false q, Bool.and_false]
    rw [hz, h]; rfl
  · have hz : n &&& 2 ^ k ≠ 0 := fun e => by
      have := ht k
      rw [e, Nat.zero_testBit, hb, h] at this
      simp at this
    rw [h]
    have : (((n &&& 2 ^ k : Nat) : Int) != 0) = true := by
      rw [bne_iff_ne]; exact_mod_cast hz
    rw [this]; rfl
theorem bits_le {x : Int} {n : Nat} (h0 : 0 ≤ x) (h : x < 2 ^ n) : Builtin.Int.intBits x ≤ n := by
  unfold Builtin.Int.intBits
  split
  · exact Nat.zero_le _
  · rename_i hx
    have hx' : x ≠ 0 := fun e => hx (by rw [e]; rfl)
    obtain ⟨m, rfl⟩ := Int.eq_ofNat_of_zero_le h0
    have hm : m < 2 ^ n := by exact_mod_cast h
    rw [Int.natAbs_natCast]
    exact (Nat.log2_lt (by lia)).mpr hm

noncomputable def oct (ks : List Int) : Prop := ∀ k ∈ ks, 0 ≤ k ∧ k < 256
noncomputable def num (ks : List Int) : Int := ks.foldl (fun n o => 256 * n + o) 0
theorem num_from (ks : List Int) : ∀ a : Int, ks.foldl (fun n o => 256 * n + o) a = a * 256 ^ ks.length + num ks := by
  unfold num
  induction ks with
  | nil => intro a; simp
  | cons k ks ih =>
    intro a
    rw [List.foldl_cons, ih, List.foldl_cons, ih (256 * 0 + k), List.length_cons, Int.pow_succ, Int.add_mul, Int.add_mul]
    have : 256 * a * 256 ^ ks.length = a * (256 ^ ks.length * 256) := by rw [Int.mul_comm 256 a, Int.mul_assoc, Int.mul_comm 256]
    lia
theorem num_nil : num [] = 0 := rfl
theorem num_snoc (ks : List Int) (k : Int) : num (ks ++ [k]) = 256 * num ks + k := by unfold num; rw [List.foldl_append]; rfl
theorem num_append (a b : List Int) : num (a ++ b) = num a * 256 ^ b.length + num b := by
  unfold num
  rw [List.foldl_append, num_from]
  rfl
theorem num_cons (k : Int) (ks : List Int) : num (k :: ks) = k * 256 ^ ks.length + num ks := by
  have := num_append [k] ks
  rw [show num [k] = k from by unfold num; simp] at this
  exact this
theorem oct_append {a b : List Int} : oct (a ++ b) ↔ oct a ∧ oct b := ⟨fun h => ⟨fun k hk => h k (by simp [hk]), fun k hk => h k (by simp [hk])⟩, fun h k hk => (List.mem_append.mp hk).elim (h.1 k) (h.2 k)⟩
theorem oct_cons {k : Int} {b : List Int} : oct (k :: b) ↔ (0 ≤ k ∧ k < 256) ∧ oct b := ⟨fun h => ⟨h k (.head _), fun x hx => h x (.tail _ hx)⟩, fun h x hx => by
  rcases List.mem_cons.mp hx with rfl | hx
  · exact h.1
  · exact h.2 x hx⟩
theorem pow256_pos (n : Nat) : (0 : Int) < 256 ^ n := Int.pow_pos (by decide)
theorem num_bound : ∀ {ks : List Int}, oct ks → 0 ≤ num ks ∧ num ks < 256 ^ ks.length
  | [], _ => by simp [num]
  | k :: ks, h => by
    have h' := oct_cons.mp h
    have ih := num_bound h'.2
    rw [num_cons, List.length_cons, Int.pow_succ]
    have hp := pow256_pos ks.length
    have h1 : 0 ≤ k * 256 ^ ks.length := Int.mul_nonneg h'.1.1 (Int.le_of_lt hp)
    have h2 : k * 256 ^ ks.length ≤ 255 * 256 ^ ks.length := Int.mul_le_mul_of_nonneg_right (by lia) (Int.le_of_lt hp)
    lia
/-- the octets of a number, the highest first -/
noncomputable def be (n : Int) : Nat → List Int
  | 0 => []
  | k + 1 => be (n / 256) k ++ [n % 256]
theorem be_len (n : Int) : ∀ k, (be n k).length = k
  | 0 => rfl
  | k + 1 => by rw [be, List.length_append, be_len]; rfl
theorem be_oct (n : Int) : ∀ k, oct (be n k)
  | 0 => fun x hx => nomatch hx
  | k + 1 => by
    rw [be]
    refine oct_append.mpr ⟨be_oct _ k, fun x hx => ?_⟩
    rw [List.mem_singleton.mp hx]
    exact ⟨Int.emod_nonneg _ (by decide), Int.emod_lt_of_pos _ (by decide)⟩
theorem num_be (n : Int) : ∀ k, num (be n k) = n % 256 ^ k
  | 0 => by rw [be, num_nil, Int.pow_zero, Int.emod_one]
  | k + 1 => by
    rw [be, num_snoc, num_be, Int.pow_succ]
    have hp := pow256_pos k
    have e := Int.emod_emod_of_dvd n (show (256 : Int) ∣ 256 ^ k * 256 from Int.dvd_mul_left _ _)
    have h1 := Int.mul_ediv_add_emod n 256
    have h2 : n % (256 ^ k * 256) = 256 * (n / 256 % 256 ^ k) + n % 256 := by
      have h3 := Int.mul_ediv_add_emod (n / 256) (256 ^ k)
      have h4 : n = (256 ^ k * 256) * (n / 256 / 256 ^ k) + (256 * (n / 256 % 256 ^ k) + n % 256) := by
        have : 256 * (256 ^ k * (n / 256 / 256 ^ k) + n / 256 % 256 ^ k) + n % 256 = n := by rw [h3]; exact h1
        rw [Int.mul_add] at this
        have e5 : 256 ^ k * 256 * (n / 256 / 256 ^ k) = 256 * (256 ^ k * (n / 256 / 256 ^ k)) := by rw [Int.mul_comm (256 ^ k) 256, Int.mul_assoc]
        lia
      conv => lhs; rw [h4]
      rw [Int.mul_add_emod_self_left]
      refine Int.emod_eq_of_lt ?_ ?_
      · have := Int.emod_nonneg (n / 256) (Int.ne_of_gt hp); have := Int.emod_nonneg n (show (256 : Int) ≠ 0 by decide); lia
      · have := Int.emod_lt_of_pos (n / 256) hp; have := Int.emod_lt_of_pos n (show (0 : Int) < 256 by decide); lia
    lia
theorem be_num : ∀ {ks : List Int}, oct ks → be (num ks) ks.length = ks := by
  intro ks
  induction h : ks.length generalizing ks with
  | zero => intro _; rw [List.length_eq_zero_iff.mp h]; rfl
  | succ n ih =>
    intro ho
    have hne : ks ≠ [] := fun e => by rw [e] at h; cases h
    have e := List.dropLast_concat_getLast hne
    rw [← e] at ho h ⊢
    generalize ks.dropLast = a at *
    generalize ks.getLast hne = x at *
    have ho' := oct_append.mp ho
    have hx := ho'.2 x (.head _)
    rw [List.length_append, List.length_singleton] at h
    have hl : a.length = n := by lia
    rw [num_snoc, be, show (256 * num a + x) / 256 = num a by lia, show (256 * num a + x) % 256 = x by lia, ih hl ho'.1]
end Mine
end
section
open PySem PySem.W PySem.Spec PySem.Calls PyProof.Rows
set_option Elab.async false
namespace Mine
set_option tactic.hygienic false
set_option maxRecDepth 100000
theorem big_eq : big = 16777216 := rfl
theorem le_big {n : Nat} (h : n ≤ 1000) : n ≤ big := Nat.le_trans h (by decide)
theorem le_bigm {ks : List Int} (h : ks.length ≤ 1000) : (ks.map Tr.int).length ≤ big := by rw [List.length_map]; exact le_big h
noncomputable abbrev exN : PySem.Str → Option Addr := fun _ => none
noncomputable abbrev S0 : Sig := sigOf exN []

noncomputable def dig (ns : List Int) (k : Nat) : Int := ns.getD k 0
noncomputable def fld (ns : List Int) (k : Nat) (u tp : Int) : Int := if dig ns k % 16 = 15 then dig ns k / 16 else (dig ns k / 16 + u) % tp
noncomputable def someL (d : Int) (m : Nat) (s : Int) : List Int := (List.range m).map fun (k : Nat) => (d / 256 ^ k + 37 * (k : Int) + s) % 256
noncomputable def pad (ks : List Int) : List Int := ks ++ List.replicate (-(ks.length : Int) % 4).toNat 0
noncomputable def fold (t : Int) : Int := if t = 0 then 0 else (t - 1) % 65535 + 1

/-- the shapes of arguments -/
noncomputable def aI (ts : List Tr) (K : Int → List Tr → Prop) : Prop := match ts with
  | .int a :: r => K a r
  | _ => False
noncomputable def aB (ts : List Tr) (K : List Int → List Tr → Prop) : Prop := match ts with
  | .bytes a :: r => K a r
  | _ => False
noncomputable def aL (ts : List Tr) (K : List Tr → List Tr → Prop) : Prop := match ts with
  | .list a :: r => K a r
  | _ => False
noncomputable def aP (ts : List Tr) (K : List Tr → List Tr → Prop) : Prop := match ts with
  | .ip a :: r => K a r
  | _ => False
noncomputable def aT (ts : List Tr) (K : Tr → List Tr → Prop) : Prop := match ts with
  | a :: r => K a r
  | _ => False
noncomputable def aZ (ts : List Tr) (K : Prop) : Prop := match ts with
  | [] => K
  | _ => False
theorem aI_of {ts : List Tr} {K : Int → List Tr → Prop} (h : aI ts K) : ∃ a r, ts = .int a :: r ∧ K a r := by
  rcases ts with _ | ⟨t, r⟩
  · exact h.elim
  · cases t <;> first | exact h.elim | exact ⟨_, r, rfl, h⟩
theorem aB_of {ts : List Tr} {K : List Int → List Tr → Prop} (h : aB ts K) : ∃ a r, ts = .bytes a :: r ∧ K a r := by
  rcases ts with _ | ⟨t, r⟩
  · exact h.elim
  · cases t <;> first | exact h.elim | exact ⟨_, r, rfl, h⟩
theorem aL_of {ts : List Tr} {K : List Tr → List Tr → Prop} (h : aL ts K) : ∃ a r, ts = .list a :: r ∧ K a r := by
  rcases ts with _ | ⟨t, r⟩
  · exact h.elim
  · cases t <;> first | exact h.elim | exact ⟨_, r, rfl, h⟩
theorem aP_of {ts : List Tr} {K : List Tr → List Tr → Prop} (h : aP ts K) : ∃ a r, ts = .ip a :: r ∧ K a r := by
  rcases ts with _ | ⟨t, r⟩
  · exact h.elim
  · cases t <;> first | exact h.elim | exact ⟨_, r, rfl, h⟩
theorem aT_of {ts : List Tr} {K : Tr → List Tr → Prop} (h : aT ts K) : ∃ a r, ts = a :: r ∧ K a r := by
  rcases ts with _ | ⟨t, r⟩
  · exact h.elim
  · exact ⟨t, r, rfl, h⟩
theorem aZ_of {ts : List Tr} {K : Prop} (h : aZ ts K) : ts = [] ∧ K := by
  rcases ts with _ | ⟨t, r⟩
  · exact ⟨rfl, h⟩
  · exact h.elim
noncomputable def oneB (ts : List Tr) (K : List Int → Prop) : Prop := aB ts fun a r => aZ r (K a)
noncomputable def oneL (ts : List Tr) (K : List Tr → Prop) : Prop := aL ts fun a r => aZ r (K a)
noncomputable def oneI (ts : List Tr) (K : Int → Prop) : Prop := aI ts fun a r => aZ r (K a)
noncomputable def oneP (ts : List Tr) (K : List Tr → Prop) : Prop := aP ts fun a r => aZ r (K a)
noncomputable def twoI (ts : List Tr) (K : Int → Int → Prop) : Prop := aI ts fun a r => oneI r (K a)
theorem oneB_of {ts : List Tr} {K : List Int → Prop} (h : oneB ts K) : ∃ a, ts = [.bytes a] ∧ K a := by
  replace h := aB_of h
  obtain ⟨a, r, rfl, h⟩ := h
  replace h := aZ_of h
  obtain ⟨rfl, h⟩ := h
  exact ⟨a, rfl, h⟩
theorem oneL_of {ts : List Tr} {K : List Tr → Prop} (h : oneL ts K) : ∃ a, ts = [.list a] ∧ K a := by
  replace h := aL_of h
  obtain ⟨a, r, rfl, h⟩ := h
  replace h := aZ_of h
  obtain ⟨rfl, h⟩ := h
  exact ⟨a, rfl, h⟩
theorem oneI_of {ts : List Tr} {K : Int → Prop} (h : oneI ts K) : ∃ a, ts = [.int a] ∧ K a := by
  replace h := aI_of h
  obtain ⟨a, r, rfl, h⟩ := h
  replace h := aZ_of h
  obtain ⟨rfl, h⟩ := h
  exact ⟨a, rfl, h⟩
theorem oneP_of {ts : List Tr} {K : List Tr → Prop} (h : oneP ts K) : ∃ a, ts = [.ip a] ∧ K a := by
  replace h := aP_of h
  obtain ⟨a, r, rfl, h⟩ := h
  replace h := aZ_of h
  obtain ⟨rfl, h⟩ := h
  exact ⟨a, rfl, h⟩
theorem twoI_of {ts : List Tr} {K : Int → Int → Prop} (h : twoI ts K) : ∃ a b, ts = [.int a, .int b] ∧ K a b := by
  replace h := aI_of h
  obtain ⟨a, r, rfl, h⟩ := h
  replace h := oneI_of h
  obtain ⟨b, rfl, h⟩ := h
  exact ⟨a, b, rfl, h⟩
/-- the nine fields -/
structure Nine where
  a : Int
  b : Int
  c : Int
  d : Int
  e : Int
  f : Int
  g : Int
  h : Int
  i : Int
noncomputable abbrev Nine.fs (x : Nine) : List Tr := [.int x.a, .int x.b, .int x.c, .int x.d, .int x.e, .int x.f, .int x.g, .int x.h, .int x.i]
noncomputable abbrev Nine.tr (x : Nine) : Tr := .list x.fs
noncomputable def nineL (fs : List Tr) (K : Nine → Prop) : Prop := aI fs fun a r => aI r fun b r => aI r fun c r => aI r fun d r => aI r fun e r => aI r fun f r => aI r fun g r => twoI r fun h i => K ⟨a, b, c, d, e, f, g, h, i⟩
theorem nineL_of {fs : List Tr} {K : Nine → Prop} (h : nineL fs K) : ∃ x : Nine, fs = x.fs ∧ K x := by
  replace h := aI_of h
  obtain ⟨a, r, rfl, h⟩ := h
  replace h := aI_of h
  obtain ⟨b, r, rfl, h⟩ := h
  replace h := aI_of h
  obtain ⟨c, r, rfl, h⟩ := h
  replace h := aI_of h
  obtain ⟨d, r, rfl, h⟩ := h
  replace h := aI_of h
  obtain ⟨e, r, rfl, h⟩ := h
  replace h := aI_of h
  obtain ⟨f, r, rfl, h⟩ := h
  replace h := aI_of h
  obtain ⟨g, r, rfl, h⟩ := h
  replace h := twoI_of h
  obtain ⟨z, i, rfl, h⟩ := h
  exact ⟨⟨a, b, c, d, e, f, g, z, i⟩, rfl, h⟩
/-- nine fields, a list, one more -/
noncomputable def nineLL (ts : List Tr) (K : Nine → List Tr → List Tr → Prop) : Prop := aL ts fun fs r => nineL fs fun x => aL r fun xs r => K x xs r
theorem nineLL_of {ts : List Tr} {K : Nine → List Tr → List Tr → Prop} (h : nineLL ts K) : ∃ x xs r, ts = x.tr :: .list xs :: r ∧ K x xs r := by
  replace h := aL_of h
  obtain ⟨fs, r, rfl, h⟩ := h
  replace h := nineL_of h
  obtain ⟨x, rfl, h⟩ := h
  replace h := aL_of h
  obtain ⟨xs, r, rfl, h⟩ := h
  exact ⟨x, xs, r, rfl, h⟩

noncomputable def sNumber : Spec := fun ts Q _ => oneB ts fun ks => oct ks ∧ ks.length ≤ 1000 ∧ Q (.int (num ks))
noncomputable def sWhole : Spec := fun ts Q _ => oneL ts fun xs => ∃ ks : List Int, xs = ks.map Tr.int ∧ oct ks ∧ ks.length ≤ 1000 ∧ Q (.int (num ks))
noncomputable def sDigit : Spec := fun ts Q _ => aL ts fun xs r => oneI r fun p => ∃ ns : List Int, xs = ns.map Tr.int ∧ ns.length ≤ 1000 ∧ 0 ≤ p ∧ Q (.int (dig ns p.toNat))
noncomputable def sField : Spec := fun ts Q _ => aL ts fun xs r => aI r fun p r => twoI r fun u tp => ∃ ns : List Int, xs = ns.map Tr.int ∧ ns.length ≤ 1000 ∧ 0 ≤ p ∧ 0 < tp ∧ Q (.int (fld ns p.toNat u tp))
noncomputable def sSome : Spec := fun ts Q _ => aI ts fun d r => twoI r fun m s => 0 ≤ m ∧ m ≤ 1000 ∧ Q (.list ((someL d m.toNat s).map Tr.int))
noncomputable def sPad4 : Spec := fun ts Q _ => oneB ts fun ks => ks.length ≤ 1000 ∧ Q (.bytes (pad ks))
noncomputable def sFolded : Spec := fun ts Q _ => oneI ts fun t => 0 ≤ t ∧ Q (.int (fold t))
noncomputable def sSum16 : Spec := fun ts Q _ => aB ts fun ks r => (match r with
  | [] => oct ks ∧ ks.length ≤ 1000 ∧ ks.length % 2 = 0 ∧ Q (.int (fold (num ks)))
  | t :: r => oneI (t :: r) fun a => a = 0 ∧ oct ks ∧ ks.length ≤ 1000 ∧ ks.length % 2 = 0 ∧ Q (.int (fold (num ks))))
noncomputable def sCheck : Spec := fun ts Q _ => oneB ts fun ks => oct ks ∧ ks.length ≤ 1000 ∧ ks.length % 2 = 0 ∧ Q (.int (65535 - fold (num ks)))
noncomputable def sOctets : Spec := fun ts Q X => twoI ts fun n k => 0 ≤ k ∧ k ≤ 100 ∧ (n < 0 ∨ 256 ^ k.toNat ≤ n → X 44 "the number does not fit its octets") ∧ (0 ≤ n → n < 256 ^ k.toNat → Q (.bytes (be n k.toNat)))
noncomputable def sRow : Spec := fun ts Q _ => twoI ts fun n k => 0 ≤ k ∧ k ≤ 1000 ∧ Q (.list ((be n k.toNat).map Tr.int))

/-- what head_of finds -/
noncomputable def headR (ks : List Int) : Except PySem.Str (Int × Int) :=
  if ks.length < 20 then .error "truncated head"
  else if dig ks 0 / 16 ≠ 4 then .error "bad version"
  else if dig ks 0 % 16 * 4 < 20 ∨ (ks.length : Int) < dig ks 0 % 16 * 4 then .error "bad head length"
  else if 256 * dig ks 2 + dig ks 3 < dig ks 0 % 16 * 4 ∨ (ks.length : Int) < 256 * dig ks 2 + dig ks 3 then .error "bad total length"
  else if fold (num (ks.take (dig ks 0 % 16 * 4).toNat)) ≠ 65535 then .error "bad head sum"
  else .ok (dig ks 0 % 16 * 4, 256 * dig ks 2 + dig ks 3)
noncomputable def sHeadOf : Spec := fun ts Q X => oneB ts fun ks => oct ks ∧ ks.length ≤ 1000 ∧ (∀ e, headR ks = .error e → X 56 e) ∧ (∀ h t, headR ks = .ok (h, t) → Q (.tup [.int h, .int t]))
/-- a head's fields and octets -/
structure Ip where
  src : Int
  tgt : Int
  pro : Int
  data : List Int
  ttl : Int
  ident : Int
  flags : Int
  place : Int
  dscp : Int
  ecn : Int
  opts : List Int
noncomputable def Ip.tr (i : Ip) : Tr := .ip [.int i.src, .int i.tgt, .int i.pro, .bytes i.data, .int i.ttl, .int i.ident, .int i.flags, .int i.place, .int i.dscp, .int i.ecn, .bytes i.opts]
noncomputable def ipL (ts : List Tr) (K : Ip → Prop) : Prop := oneP ts fun fs => aI fs fun a r => aI r fun b r => aI r fun c r => aB r fun d r => aI r fun e r => aI r fun f r => aI r fun g r => aI r fun h r => aI r fun i r => aI r fun j r => oneB r fun o => K ⟨a, b, c, d, e, f, g, h, i, j, o⟩
theorem ipL_of {ts : List Tr} {K : Ip → Prop} (h : ipL ts K) : ∃ i : Ip, ts = [i.tr] ∧ K i := by
  replace h := oneP_of h
  obtain ⟨fs, rfl, h⟩ := h
  replace h := aI_of h
  obtain ⟨a, r, rfl, h⟩ := h
  replace h := aI_of h
  obtain ⟨b, r, rfl, h⟩ := h
  replace h := aI_of h
  obtain ⟨c, r, rfl, h⟩ := h
  replace h := aB_of h
  obtain ⟨d, r, rfl, h⟩ := h
  replace h := aI_of h
  obtain ⟨e, r, rfl, h⟩ := h
  replace h := aI_of h
  obtain ⟨f, r, rfl, h⟩ := h
  replace h := aI_of h
  obtain ⟨g, r, rfl, h⟩ := h
  replace h := aI_of h
  obtain ⟨z, r, rfl, h⟩ := h
  replace h := aI_of h
  obtain ⟨i, r, rfl, h⟩ := h
  replace h := aI_of h
  obtain ⟨j, r, rfl, h⟩ := h
  replace h := oneB_of h
  obtain ⟨o, rfl, h⟩ := h
  exact ⟨⟨a, b, c, d, e, f, g, z, i, j, o⟩, rfl, h⟩
noncomputable def sl (ks : List Int) (a b : Nat) : List Int := (ks.take b).drop a
noncomputable def readIp (ks : List Int) (h t : Int) : Ip :=
  { src := num (sl ks 12 16), tgt := num (sl ks 16 20), pro := dig ks 9, data := sl ks h.toNat t.toNat, ttl := dig ks 8, ident := num (sl ks 4 6), flags := num (sl ks 6 8) / 8192, place := num (sl ks 6 8) % 8192 * 8, dscp := dig ks 1 / 4, ecn := dig ks 1 % 4, opts := sl ks 20 h.toNat }
noncomputable def sRead : Spec := fun ts Q X => oneB ts fun ks => oct ks ∧ ks.length ≤ 1000 ∧ (∀ e, headR ks = .error e → X 56 e) ∧ (∀ h t, headR ks = .ok (h, t) → Q (readIp ks h t).tr)
noncomputable def Ip.total (i : Ip) : Int := 20 + (pad i.opts).length + i.data.length
noncomputable def ipOk (i : Ip) : Prop := i.opts.length ≤ 1000 ∧ i.data.length ≤ 1000
noncomputable def sTotal : Spec := fun ts Q _ => ipL ts fun i => ipOk i ∧ Q (.int i.total)
noncomputable def Ip.odd (i : Ip) : Prop := 63 < i.dscp ∨ 3 < i.ecn ∨ 7 < i.flags ∨ 65528 < i.place ∨ i.place % 8 ≠ 0
noncomputable def sLens : Spec := fun ts Q X => ipL ts fun i => ipOk i ∧ (40 < i.opts.length → X 56 "options too long") ∧
      (i.opts.length ≤ 40 → i.odd → X 44 "no such field of an IPv4 head") ∧ (i.opts.length ≤ 40 → ¬ i.odd → Q .none)
noncomputable def Ip.fits (i : Ip) : Prop := (0 ≤ i.src ∧ i.src < 256 ^ 4) ∧ (0 ≤ i.tgt ∧ i.tgt < 256 ^ 4) ∧ (0 ≤ i.pro ∧ i.pro < 256) ∧ (0 ≤ i.ttl ∧ i.ttl < 256) ∧ (0 ≤ i.ident ∧ i.ident < 65536) ∧ 0 ≤ i.flags ∧ 0 ≤ i.place ∧ 0 ≤ i.dscp ∧ 0 ≤ i.ecn
noncomputable def Ip.first (i : Ip) : List Int := be (69 + (pad i.opts).length / 4) 1 ++ be (i.dscp * 4 + i.ecn) 1 ++ be i.total 2 ++ (be i.ident 2 ++ be (i.flags * 8192 + i.place / 8) 2) ++ (be i.ttl 1 ++ be i.pro 1)
noncomputable def Ip.behind (i : Ip) : List Int := be i.src 4 ++ be i.tgt 4 ++ pad i.opts
noncomputable def Ip.written (i : Ip) : List Int := i.first ++ be (65535 - fold (num (i.first ++ i.behind))) 2 ++ i.behind ++ i.data
noncomputable def small (x : Int) : Prop := Builtin.Int.intBits x ≤ 2097152
noncomputable def sWrite : Spec := fun ts Q X => ipL ts fun i => ipOk i ∧ oct i.data ∧ oct i.opts ∧ small i.dscp ∧ small i.flags ∧ (40 < i.opts.length → X 56 "options too long") ∧
      (i.opts.length ≤ 40 → i.odd → X 44 "no such field of an IPv4 head") ∧
      (i.opts.length ≤ 40 → ¬ i.odd → ¬ i.fits → X 44 "the number does not fit its octets") ∧
      (i.opts.length ≤ 40 → ¬ i.odd → i.fits → Q (.bytes i.written))
end Mine
end
section
open PySem PySem.W PySem.Spec PySem.Calls PyProof.Rows
set_option Elab.async false
namespace Mine
set_option tactic.hygienic false
set_option maxRecDepth 100000
theorem exN_ok {K : Frag} {G : Wo} {n : Nat} : ∀ f C, exN f = some C → gvK K f = some (.ref C) ∧ C ∈ G.exC ∧ 3 ≤ n := fun _ _ h => nomatch h
section
variable {w : World} {h₀ : Heap} {f cd : Addr} {i : Nat} {name : PySem.Str} {names : List PySem.Str} {pym : Value} {n : Nat} {ex : PySem.Str → Option Addr} {l : Cals} {sp : Spec}
theorem kind_of {K : Frag} {cd : Addr} {q : PySem.Str} {names : List PySem.Str} {sc : Scope} (ok : defOk K cd q names sc = true) : sc.kind = .function := by
  simp only [defOk, Bool.and_eq_true, decide_eq_true_eq] at ok
  exact ok.1.1.2
theorem mkC (B : Base prg w (kf w.params) h₀) (hl : (kf w.params).lookup f = some (fnO name name (fnAt i) .none pym cd)) (ok : defOk (kf w.params) cd name names (fnAt i).2.2 = true) (hb : ∀ vs, vs.length = names.length → bindArgs (fnF name name (fnAt i) .none pym cd) ⟨vs, []⟩ = pure (names.zip vs))
    (okb : okB (fnAt i).2.2 [] (fnAt i).2.1 = true) (hex : ∀ f C, ex f = some C → gvK (kf w.params) f = some (.ref C) ∧ C ∈ (g0 w.params).exC ∧ 3 ≤ n) (cs : CalsOK prg w (kf w.params) (g0 w.params) h₀ n l)
    (hsp : ∀ ts Q X, sp ts Q X → ts.length = names.length ∧ wpB (sigOf ex l) (fnAt i).2.1 (names.zip (ts.map Slot.val)) (endQ Q) (fun C y _ => X C y)) : Contract prg w (g0 w.params) h₀ (n + 1) (.ref f) sp :=
  contract_of B (c_def hl ok hb) (fun hr S k => mkFG (lib B) hex cs (kind_of ok) hr S k) okb fun ts Q X h => ⟨ts, if_pos (hsp ts Q X h).1, (hsp ts Q X h).2⟩
theorem mkN (B : Base prg w (kf w.params) h₀) (hl : (kf w.params).lookup f = some (fnO name name (fnAt i) .none pym cd)) (ok : defOk (kf w.params) cd name names (fnAt i).2.2 = true) (hb : ∀ vs, vs.length = names.length → bindArgs (fnF name name (fnAt i) .none pym cd) ⟨vs, []⟩ = pure (names.zip vs))
    (okb : okB (fnAt i).2.2 [] (fnAt i).2.1 = true) (hex : ∀ f C, ex f = some C → gvK (kf w.params) f = some (.ref C) ∧ C ∈ (g0 w.params).exC ∧ 3 ≤ n) (cs : CalsOK prg w (kf w.params) (g0 w.params) h₀ n l)
    (hsp : ∀ ts Q X, sp ts Q X → ts.length = names.length ∧ wpB (sigOf ex l) (fnAt i).2.1 (names.zip (ts.map Slot.val)) (endN Q) (fun C y _ => X C y)) : ContractN prg w (g0 w.params) h₀ (n + 1) (.ref f) sp :=
  contractN_of B (c_def hl ok hb) (fun hr S k => mkFG (lib B) hex cs (kind_of ok) hr S k) okb fun ts Q X h => ⟨ts, if_pos (hsp ts Q X h).1, (hsp ts Q X h).2⟩
theorem mkM {p0 : PySem.Str} {sp : MSpec} (B : Base prg w (kf w.params) h₀) (hl : (kf w.params).lookup f = some (fnO name name (fnAt i) .none pym cd)) (ok : defOk (kf w.params) cd name (p0 :: names) (fnAt i).2.2 = true) (hb : ∀ vs, vs.length = (p0 :: names).length → bindArgs (fnF name name (fnAt i) .none pym cd) ⟨vs, []⟩ = pure ((p0 :: names).zip vs))
    (okb : okB (fnAt i).2.2 [p0] (fnAt i).2.1 = true) (hex : ∀ f C, ex f = some C → gvK (kf w.params) f = some (.ref C) ∧ C ∈ (g0 w.params).exC ∧ 3 ≤ n) (cs : CalsOK prg w (kf w.params) (g0 w.params) h₀ n l)
    (hsp : ∀ t ts Q, sp t ts Q → ts.length = names.length ∧ wpB (sigOf ex l) (fnAt i).2.1 ((p0, .mu t) :: names.zip (ts.map Slot.val)) (endM p0 Q) (fun _ _ _ => False)) : ContractM prg w (g0 w.params) h₀ (n + 1) (.ref f) sp :=
  contractM_of B (c_def hl ok hb) (fun hr S k => mkFG (lib B) hex cs (kind_of ok) hr S k) okb (fun t ts Q h => (hsp t ts Q h).2) fun t ts Q h => (hsp t ts Q h).1
end

/-- the two ends of a test -/
noncomputable def ifW (c : Bool) (a b : Prop) : Prop := (c = true → a) ∧ (c = false → b)
theorem ifW_of {c : Bool} {a b : Prop} (h1 : c = true → a) (h2 : c = false → b) : ifW c a b := ⟨h1, h2⟩
noncomputable def orW (c : Bool) (rest : Prop) (K : Bool → Prop) : Prop := (c = false → rest) ∧ (c = true → K c)

section
variable {w : World} {h₀ : Heap} (B : Base prg w (kf w.params) h₀)

theorem w5 (ks : List Int) (Q : Fl → Loc → Prop) (X : XE) : wpB S0 (fnAt 5).2.1 [("octets", .val (.bytes ks))] Q X =
  (ks.length ≤ big ∧ ForK S0 (forTg (stAt 5 1)) (forBody (stAt 5 1)) (ks.map Tr.int) [("octets", .val (.bytes ks)), ("number", .val (.int 0))] (seqQ S0 ((fnAt 5).2.1.drop 2) Q X)) := by kernel_rfl
theorem w5t (n a : Int) (ks : List Int) (N : Loc → Prop) (R : Tr → Loc → Prop) (M : PySem.Str → Tr → Loc → Prop) : TB S0 (forTg (stAt 5 1)) (forBody (stAt 5 1)) [("octets", .val (.bytes ks)), ("number", .val (.int a)), ("octet", .val (.int n))] N R M =
  (0 ≤ (8 : Int) ∧ (Builtin.Int.intBits a : Int) + 8 ≤ 2 ^ 27 ∧ N [("octets", .val (.bytes ks)), ("number", .val (.int (Builtin.bitOr (a * 2 ^ 8) n)))]) := by kernel_rfl
theorem w5e (ks : List Int) (a : Int) (Q : Fl → Loc → Prop) (X : XE) : wpB S0 ((fnAt 5).2.1.drop 2) [("octets", .val (.bytes ks)), ("number", .val (.int a))] Q X = Q (.ret (.int a)) [("octets", .val (.bytes ks)), ("number", .val (.int a))] := by kernel_rfl
theorem intBits_num {ks : List Int} (ho : oct ks) (hl : ks.length ≤ 1000) : (Builtin.Int.intBits (num ks) : Int) + 8 ≤ 2 ^ 27 := by
  have hb := num_bound ho
  have h2 : (256 : Int) ^ ks.length = 2 ^ (8 * ks.length) := by rw [Int.pow_mul]; rfl
  have := bits_le (n := 8 * ks.length) hb.1 (h2 ▸ hb.2)
  have : Builtin.Int.intBits (num ks) ≤ 8000 := by lia
  lia
theorem num_take_succ {ks : List Int} {i : Nat} {n : Int} (h : ks[i]? = some n) : num (ks.take (i + 1)) = 256 * num (ks.take i) + n := by
  rw [List.take_add_one, h]
  exact num_snoc _ _
theorem oct_take {ks : List Int} (h : oct ks) (i : Nat) : oct (ks.take i) := fun k hk => h k (List.mem_of_mem_take hk)
theorem oct_drop {ks : List Int} (h : oct ks) (i : Nat) : oct (ks.drop i) := fun k hk => h k (List.mem_of_mem_drop hk)
include B in
theorem c_number : Contract prg w (g0 w.params) h₀ 1 (.ref 65) sNumber :=
  mkC (n := 0) (ex := exN) (l := []) (i := 5) (cd := 64) (name := "number_of") (names := ["octets"]) (pym := .str "siftwall.octets" 251) B (by kernel_rfl) (by kernel_rfl) (fun vs h => by
    obtain ⟨a, rfl⟩ := len1 h
    kernel_rfl) (by kernel_rfl) exN_ok .nil fun ts Q X h => by
    replace h := oneB_of h
    obtain ⟨ks, rfl, h⟩ := h
    · obtain ⟨ho, hl, hq⟩ := h
      refine ⟨rfl, use (w5 ks _ _) ⟨by first | exact le_big (by assumption) | (rw [big_eq]; lia), forK_ints (fun i => [("octets", .val (.bytes ks)), ("number", .val (.int (num (ks.take i))))]) rfl (fun i n hn N hN => turn_of _ rfl (w5t n _ ks _ _ _) ⟨by decide, intBits_num (oct_take ho i) (by rw [List.length_take]; lia), ?_⟩) ?_⟩⟩
      · rw [num_take_succ hn] at hN
        have h1 := ho n (List.mem_of_getElem? hn)
        rw [or_shift 8 (num_bound (oct_take ho i)).1 h1.1 h1.2, Int.mul_comm]
        exact hN
      · rw [List.take_length]
        exact use (w5e ks _ _ _) hq

theorem w26 (ks : List Int) (Q : Fl → Loc → Prop) (X : XE) : wpB S0 (fnAt 26).2.1 [("octets", .val (iL ks))] Q X =
  ((ks.map Tr.int).length ≤ big ∧ ForK S0 (forTg (stAt 26 1)) (forBody (stAt 26 1)) (ks.map Tr.int) [("octets", .val (iL ks)), ("whole", .val (.int 0))] (seqQ S0 ((fnAt 26).2.1.drop 2) Q X)) := by kernel_rfl
theorem w26t (n a : Int) (ks : List Int) (N : Loc → Prop) (R : Tr → Loc → Prop) (M : PySem.Str → Tr → Loc → Prop) : TB S0 (forTg (stAt 26 1)) (forBody (stAt 26 1)) [("octets", .val (iL ks)), ("whole", .val (.int a)), ("octet", .val (.int n))] N R M =
  (IntMulOk 256 a ∧ N [("octets", .val (iL ks)), ("whole", .val (.int (256 * a + n)))]) := by kernel_rfl
theorem w26e (ks : List Int) (a : Int) (Q : Fl → Loc → Prop) (X : XE) : wpB S0 ((fnAt 26).2.1.drop 2) [("octets", .val (iL ks)), ("whole", .val (.int a))] Q X = Q (.ret (.int a)) [("octets", .val (iL ks)), ("whole", .val (.int a))] := by kernel_rfl
theorem mul_small {a b : Int} (h : Builtin.Int.intBits a ≤ 64) : IntMulOk a b := IntMulOk.of_left h
include B in
theorem c_whole : Contract prg w (g0 w.params) h₀ 1 (.ref 210) sWhole :=
  mkC (n := 0) (ex := exN) (l := []) (i := 26) (cd := 209) (name := "_law_whole") (names := ["octets"]) (pym := .str "law_pf0339_01" 418) B (by kernel_rfl) (by kernel_rfl) (fun vs h => by
    obtain ⟨a, rfl⟩ := len1 h
    kernel_rfl) (by kernel_rfl) exN_ok .nil fun ts Q X h => by
    replace h := oneL_of h
    obtain ⟨xs, rfl, h⟩ := h
    · obtain ⟨ks, rfl, ho, hl, hq⟩ := h
      refine ⟨rfl, use (w26 ks _ _) ⟨by first | exact le_bigm (by assumption) | (rw [List.length_map, big_eq]; lia), forK_ints (fun i => [("octets", .val (iL ks)), ("whole", .val (.int (num (ks.take i))))]) rfl (fun i n hn N hN => turn_of _ rfl (w26t n _ ks _ _ _) ⟨mul_small (by decide +kernel), ?_⟩) ?_⟩⟩
      · rw [num_take_succ hn] at hN
        exact hN
      · rw [List.take_length]
        exact use (w26e ks _ _ _) hq

theorem w22 (ns : List Int) (p : Int) (Q : Fl → Loc → Prop) (X : XE) : wpB S0 (fnAt 22).2.1 [("script", .val (iL ns)), ("place", .val (.int p))] Q X =
  ((ns.map Tr.int).length ≤ big ∧ ifW (decide (p < ((ns.map Tr.int).length : Int))) (0 ≤ p ∧ p < big ∧ ∃ x, (ns.map Tr.int)[p.toNat]? = some x ∧ Q (.ret x) [("script", .val (iL ns)), ("place", .val (.int p))]) (Q (.ret (.int 0)) [("script", .val (iL ns)), ("place", .val (.int p))])) := by kernel_rfl
include B in
theorem c_digit : Contract prg w (g0 w.params) h₀ 1 (.ref 184) sDigit :=
  mkC (n := 0) (ex := exN) (l := []) (i := 22) (cd := 183) (name := "_law_digit") (names := ["script", "place"]) (pym := .str "law_pf0339_01" 418) B (by kernel_rfl) (by kernel_rfl) (fun vs h => by
    obtain ⟨a, b, rfl⟩ := len2 h
    kernel_rfl) (by kernel_rfl) exN_ok .nil fun ts Q X h => by
    replace h := aL_of h
    obtain ⟨xs, r, rfl, h⟩ := h
    replace h := oneI_of h
    obtain ⟨p, rfl, h⟩ := h
    · obtain ⟨ns, rfl, hl, hp, hq⟩ := h
      refine ⟨rfl, use (w22 ns p _ _) ⟨by first | exact le_bigm (by assumption) | (rw [List.length_map, big_eq]; lia), ifW_of (fun e => ?_) fun e => ?_⟩⟩
      · rw [List.length_map] at e
        have e' := of_decide_eq_true e
        have hlt : p.toNat < ns.length := by lia
        refine ⟨hp, by first | exact le_big (by assumption) | (rw [big_eq]; lia), .int (dig ns p.toNat), ?_, hq⟩
        rw [List.getElem?_map, List.getElem?_eq_getElem hlt]
        unfold dig
        rw [List.getD_eq_getElem?_getD, List.getElem?_eq_getElem hlt]
        rfl
      · rw [List.length_map] at e
        have e' := of_decide_eq_false e
        have hge : ns.length ≤ p.toNat := by lia
        have : dig ns p.toNat = 0 := by unfold dig; rw [List.getD_eq_getElem?_getD, List.getElem?_eq_none hge]; rfl
        rw [this] at hq
        exact hq

noncomputable abbrev S23 : Sig := sigOf exN [("_law_digit", .fn sDigit)]
theorem w23 (ns : List Int) (p u tp : Int) (Q : Fl → Loc → Prop) (X : XE) : wpB S23 (fnAt 23).2.1 [("script", .val (iL ns)), ("place", .val (.int p)), ("usual", .val (.int u)), ("top", .val (.int tp))] Q X =
  (∃ ns1, ns.map Tr.int = ns1.map Tr.int ∧ ns1.length ≤ 1000 ∧ 0 ≤ p ∧ 0 < (16 : Int) ∧ ifW (dig ns1 p.toNat % 16 == 15)
    (0 < (16 : Int) ∧ (16 : Int).natAbs.log2 < 9000 ∧ Q (.ret (.int (dig ns1 p.toNat / 16))) [("script", .val (iL ns)), ("place", .val (.int p)), ("usual", .val (.int u)), ("top", .val (.int tp)), ("digit", .val (.int (dig ns1 p.toNat)))])
    (0 < (16 : Int) ∧ (16 : Int).natAbs.log2 < 9000 ∧ 0 < tp ∧ Q (.ret (.int ((dig ns1 p.toNat / 16 + u) % tp))) [("script", .val (iL ns)), ("place", .val (.int p)), ("usual", .val (.int u)), ("top", .val (.int tp)), ("digit", .val (.int (dig ns1 p.toNat)))])) := by kernel_rfl
include B in
theorem c_field : Contract prg w (g0 w.params) h₀ 2 (.ref 191) sField :=
  mkC (n := 1) (ex := exN) (l := [("_law_digit", .fn sDigit)]) (i := 23) (cd := 190) (name := "_law_field") (names := ["script", "place", "usual", "top"]) (pym := .str "law_pf0339_01" 418) B (by kernel_rfl) (by kernel_rfl) (fun vs h => by
    obtain ⟨a, b, c, d, rfl⟩ := len4 h
    kernel_rfl) (by kernel_rfl) exN_ok (.fn (by kernel_rfl) (Nat.le_refl _) (c_digit B) .nil) fun ts Q X h => by
    replace h := aL_of h
    obtain ⟨xs, r, rfl, h⟩ := h
    replace h := aI_of h
    obtain ⟨p, r, rfl, h⟩ := h
    replace h := twoI_of h
    obtain ⟨u, tp, rfl, h⟩ := h
    · obtain ⟨ns, rfl, hl, hp, ht, hq⟩ := h
      refine ⟨rfl, use (w23 ns p u tp _ _) ⟨ns, rfl, hl, hp, by decide, ifW_of (fun e => ⟨by decide, by decide +kernel, ?_⟩) fun e => ⟨by decide, by decide +kernel, ht, ?_⟩⟩⟩
      · unfold fld at hq
        rw [if_pos (beq_iff_eq.mp e)] at hq
        exact hq
      · unfold fld at hq
        rw [if_neg (beq_eq_false_iff_ne.mp e)] at hq
        exact hq

theorem w24 (d m s : Int) (Q : Fl → Loc → Prop) (X : XE) : wpB S0 (fnAt 24).2.1 [("digit", .val (.int d)), ("many", .val (.int m)), ("shift", .val (.int s))] Q X =
  (-(big : Int) ≤ m ∧ m ≤ big ∧ ForK S0 (forTg (stAt 24 1)) (forBody (stAt 24 1)) ((rangeL 0 m 1).map Tr.int) [("digit", .val (.int d)), ("many", .val (.int m)), ("shift", .val (.int s)), ("out", .mu (.list []))] (seqQ S0 ((fnAt 24).2.1.drop 2) Q X)) := by kernel_rfl
theorem w24t (d m s k : Int) (xs : List Tr) (N : Loc → Prop) (R : Tr → Loc → Prop) (M : PySem.Str → Tr → Loc → Prop) : TB S0 (forTg (stAt 24 1)) (forBody (stAt 24 1)) [("digit", .val (.int d)), ("many", .val (.int m)), ("shift", .val (.int s)), ("out", .mu (.list xs)), ("k", .val (.int k))] N R M =
  (("append" : PySem.Str) = "append" ∧ IntMulOk 37 k ∧ 0 < (256 : Int) ∧ some (Slot.mu (Tr.list xs)) = some (Slot.mu (Tr.list xs)) ∧ xs.length < big ∧ 0 < (256 : Int) ∧ (256 : Int).natAbs.log2 < 9000 ∧
    N [("digit", .val (.int (d / 256))), ("many", .val (.int m)), ("shift", .val (.int s)), ("out", .mu (.list (xs ++ [.int ((d + 37 * k + s) % 256)])))]) := by kernel_rfl
theorem w24e (d m s : Int) (xs : List Tr) (Q : Fl → Loc → Prop) (X : XE) : wpB S0 ((fnAt 24).2.1.drop 2) [("digit", .val (.int d)), ("many", .val (.int m)), ("shift", .val (.int s)), ("out", .mu (.list xs))] Q X =
  Q (.retm "out" (.list xs)) [("digit", .val (.int d)), ("many", .val (.int m)), ("shift", .val (.int s)), ("out", .mu (.list xs))] := by kernel_rfl
theorem range_one {m : Int} (h : 0 ≤ m) : rangeL 0 m 1 = (List.range m.toNat).map fun (i : Nat) => (i : Int) := by
  unfold rangeL
  rw [show (m - 0 + 1 - 1) / 1 = m by rw [Int.ediv_one]; lia]
  refine List.map_congr_left fun i _ => ?_
  lia
theorem pow_succ_div (d : Int) (i : Nat) : d / 256 ^ (i + 1) = d / 256 ^ i / 256 := by rw [Int.pow_succ, Int.ediv_ediv_of_nonneg (Int.le_of_lt (pow256_pos i))]
include B in
theorem c_some : ContractN prg w (g0 w.params) h₀ 1 (.ref 198) sSome :=
  mkN (n := 0) (ex := exN) (l := []) (i := 24) (cd := 197) (name := "_law_some") (names := ["digit", "many", "shift"]) (pym := .str "law_pf0339_01" 418) B (by kernel_rfl) (by kernel_rfl) (fun vs h => by
    obtain ⟨a, b, c, rfl⟩ := len3 h
    kernel_rfl) (by kernel_rfl) exN_ok .nil fun ts Q X h => by
    replace h := aI_of h
    obtain ⟨d, r, rfl, h⟩ := h
    replace h := twoI_of h
    obtain ⟨m, s, rfl, h⟩ := h
    · obtain ⟨h0, h1, hq⟩ := h
      refine ⟨rfl, use (w24 d m s _ _) ⟨by first | exact le_big (by assumption) | (rw [big_eq]; lia), by first | exact le_big (by assumption) | (rw [big_eq]; lia), ?_⟩⟩
      rw [range_one h0]
      refine forK_ints (fun i => [("digit", .val (.int (d / 256 ^ i))), ("many", .val (.int m)), ("shift", .val (.int s)), ("out", .mu (.list ((someL d i s).map Tr.int)))]) (by rw [Int.pow_zero, Int.ediv_one]; rfl) (fun i n hn N hN => ?_) ?_
      · rw [List.getElem?_map] at hn
        obtain ⟨j, hj, rfl⟩ := Option.map_eq_some_iff.mp hn
        have hji : j = i ∧ i < m.toNat := by
          have := List.getElem?_eq_some_iff.mp hj
          obtain ⟨a, b⟩ := this
          rw [List.getElem_range] at b
          exact ⟨b.symm, by simpa using a⟩
        obtain ⟨rfl, hi⟩ := hji
        refine turn_of _ rfl (w24t _ m s j _ _ _ _) ⟨rfl, mul_small (by decide +kernel), by decide, rfl, ?_, by decide, by decide +kernel, ?_⟩
        · rw [List.length_map, big_eq]; unfold someL; rw [List.length_map, List.length_range]; lia
        · rw [pow_succ_div] at hN
          have e : (someL d (j + 1) s).map Tr.int = (someL d j s).map Tr.int ++ [.int ((d / 256 ^ j + 37 * j + s) % 256)] := by
            unfold someL
            rw [List.range_succ, List.map_append, List.map_append]
            rfl
          rw [e] at hN
          exact hN
      · rw [List.length_map, List.length_range]
        exact use (w24e _ m s _ _ _) hq

theorem w7 (ks : List Int) (Q : Fl → Loc → Prop) (X : XE) : wpB S0 (fnAt 7).2.1 [("octets", .val (.bytes ks))] Q X =
  (ks.length ≤ big ∧ 0 < (4 : Int) ∧ Operator.Mult = Operator.Mult ∧ ([0] : List Int) ≠ [] ∧ ([0] : List Int).length ≤ 16 ∧ -1000 ≤ -(ks.length : Int) % 4 ∧ -(ks.length : Int) % 4 ≤ 1000 ∧ Operator.Add = Operator.Add ∧
    ks.length + (List.replicate (-(ks.length : Int) % 4).toNat ([0] : List Int)).flatten.length ≤ big ∧ Q (.ret (.bytes (ks ++ (List.replicate (-(ks.length : Int) % 4).toNat ([0] : List Int)).flatten))) [("octets", .val (.bytes ks))]) := by kernel_rfl
include B in
theorem c_pad4 : Contract prg w (g0 w.params) h₀ 1 (.ref 77) sPad4 :=
  mkC (n := 0) (ex := exN) (l := []) (i := 7) (cd := 76) (name := "pad4") (names := ["octets"]) (pym := .str "siftwall.octets" 251) B (by kernel_rfl) (by kernel_rfl) (fun vs h => by
    obtain ⟨a, rfl⟩ := len1 h
    kernel_rfl) (by kernel_rfl) exN_ok .nil fun ts Q X h => by
    replace h := oneB_of h
    obtain ⟨ks, rfl, h⟩ := h
    · obtain ⟨hl, hq⟩ := h
      have h4 := Int.emod_nonneg (-(ks.length : Int)) (show (4 : Int) ≠ 0 by decide)
      have h5 := Int.emod_lt_of_pos (-(ks.length : Int)) (show (0 : Int) < 4 by decide)
      refine ⟨rfl, use (w7 ks _ _) ?_⟩
      rw [rep_one, big_eq, List.length_replicate]
      exact ⟨by lia, by decide, rfl, by decide, by decide, by lia, by lia, rfl, by lia, hq⟩

theorem w8 (a : Int) (Q : Fl → Loc → Prop) (X : XE) : wpB S0 (fnAt 8).2.1 [("total", .val (.int a))] Q X = WhileK S0 (whT (stAt 8 0)) (forBody (stAt 8 0)) [("total", .val (.int a))] (seqQ S0 ((fnAt 8).2.1.drop 1) Q X) X := by kernel_rfl
theorem w8t (a : Int) (N : Loc → Prop) (Q : Fl → Loc → Prop) (X : XE) : WTurn S0 (whT (stAt 8 0)) (forBody (stAt 8 0)) [("total", .val (.int a))] N Q X =
  (0 ≤ (16 : Int) ∧ ifW (a / 2 ^ 16 != 0) (0 ≤ (16 : Int) ∧ N [("total", .val (.int (Builtin.bitAnd a 65535 + a / 2 ^ 16)))]) (Q .next [("total", .val (.int a))])) := by kernel_rfl
theorem w8e (a : Int) (Q : Fl → Loc → Prop) (X : XE) : wpB S0 ((fnAt 8).2.1.drop 1) [("total", .val (.int a))] Q X = Q (.ret (.int a)) [("total", .val (.int a))] := by kernel_rfl
theorem fold_step {a : Int} (h0 : 0 ≤ a) : fold (a % 65536 + a / 65536) = fold a := by
  unfold fold
  have h1 := Int.mul_ediv_add_emod a 65536
  have h2 := Int.emod_nonneg a (show (65536 : Int) ≠ 0 by decide)
  have h3 : 0 ≤ a / 65536 := Int.ediv_nonneg h0 (by decide)
  by_cases ha : a = 0
  · subst ha; rfl
  · rw [if_neg ha, if_neg (by lia)]
    lia
theorem fold_small {a : Int} (h0 : 0 ≤ a) (h : a < 65536) : fold a = a := by
  unfold fold
  split
  · lia
  · lia
include B in
theorem c_folded : Contract prg w (g0 w.params) h₀ 1 (.ref 84) sFolded :=
  mkC (n := 0) (ex := exN) (l := []) (i := 8) (cd := 83) (name := "folded") (names := ["total"]) (pym := .str "siftwall.octets" 251) B (by kernel_rfl) (by kernel_rfl) (fun vs h => by
    obtain ⟨a, rfl⟩ := len1 h
    kernel_rfl) (by kernel_rfl) exN_ok .nil fun ts Q X h => by
    replace h := oneI_of h
    obtain ⟨t, rfl, h⟩ := h
    · obtain ⟨h0, hq⟩ := h
      refine ⟨rfl, use (w8 t _ _) (whileK_of (σ := Int) (fun s => 0 ≤ s ∧ fold s = fold t) Int.toNat (fun s => [("total", .val (.int s))]) t rfl ⟨h0, rfl⟩ fun s hs => use (w8t s _ _ _) ⟨by decide, ifW_of (fun e => ⟨by decide, ?_⟩) fun e => ?_⟩)⟩
      · have hm := and_mask 16 hs.1
        rw [show ((2 : Int) ^ 16 - 1) = 65535 from rfl, show ((2 : Int) ^ 16) = 65536 from rfl] at hm
        have e' : s / 65536 ≠ 0 := bne_iff_ne.mp e
        rw [hm]
        have h1 := Int.mul_ediv_add_emod s 65536
        have h2 := Int.emod_nonneg s (show (65536 : Int) ≠ 0 by decide)
        have h3 : 0 ≤ s / 65536 := Int.ediv_nonneg hs.1 (by decide)
        have hs1 := hs.1
        refine ⟨_, rfl, ⟨by show 0 ≤ s % 65536 + s / 65536; lia, (fold_step hs.1).trans hs.2⟩, ?_⟩
        show (s % 65536 + s / 65536).toNat < s.toNat
        lia
      · have e' : s / 65536 = 0 := by simpa using e
        refine use (w8e s _ _) ?_
        rw [← hs.2, fold_small hs.1 (by have := hs.1; lia)] at hq
        exact hq
end
end Mine
end
section
open PySem PySem.W PySem.Spec PySem.Calls PyProof.Rows
set_option Elab.async false
namespace Mine
set_option maxRecDepth 100000

noncomputable def wsum (ks : List Int) : Nat → Int
  | 0 => 0
  | i + 1 => wsum ks i + (256 * dig ks (2 * i) + dig ks (2 * i + 1))
theorem dig_get {ks : List Int} {k : Nat} (h : k < ks.length) : ks[k]? = some (dig ks k) := by
  unfold dig; rw [List.getD_eq_getElem?_getD, List.getElem?_eq_getElem h]; rfl
theorem dig_oct {ks : List Int} (ho : oct ks) (k : Nat) : 0 ≤ dig ks k ∧ dig ks k < 256 := by
  by_cases h : k < ks.length
  · exact ho _ (List.mem_of_getElem? (dig_get h))
  · unfold dig; rw [List.getD_eq_getElem?_getD, List.getElem?_eq_none (by lia)]; simp
theorem fold_eq {a b : Int} (ha : 0 ≤ a) (hb : 0 ≤ b) (h : (a - b) % 65535 = 0) (h0 : a = 0 ↔ b = 0) : fold a = fold b := by
  unfold fold
  by_cases q : a = 0
  · rw [if_pos q, if_pos (h0.mp q)]
  · rw [if_neg q, if_neg (fun e => q (h0.mpr e))]; lia
theorem wsum_num {ks : List Int} (ho : oct ks) : ∀ i, 2 * i ≤ ks.length → 0 ≤ wsum ks i ∧ (wsum ks i - num (ks.take (2 * i))) % 65535 = 0 ∧ (wsum ks i = 0 ↔ num (ks.take (2 * i)) = 0)
  | 0, _ => by simp [wsum, num]
  | i + 1, h => by
    have ih := wsum_num ho i (by lia)
    have e1 := num_take_succ (dig_get (ks := ks) (k := 2 * i) (by lia))
    have e2 := num_take_succ (dig_get (ks := ks) (k := 2 * i + 1) (by lia))
    rw [show 2 * (i + 1) = 2 * i + 1 + 1 by lia, e2, e1]
    have b1 := dig_oct ho (2 * i)
    have b2 := dig_oct ho (2 * i + 1)
    have b3 := (num_bound (oct_take ho (2 * i))).1
    unfold wsum
    lia

section
variable {w : World} {h₀ : Heap} (B : Base prg w (kf w.params) h₀)

noncomputable abbrev S9 : Sig := sigOf exN [("folded", .fn sFolded)]
theorem w9 (ks : List Int) (a : Int) (Q : Fl → Loc → Prop) (X : XE) : wpB S9 (fnAt 9).2.1 [("octets", .val (.bytes ks)), ("start", .val (.int a))] Q X =
  (ks.length ≤ big ∧ 0 < (2 : Int) ∧ 0 ≤ (0 : Int) ∧ 0 ≤ (big : Int) ∧ -(big : Int) ≤ (ks.length : Int) - 1 ∧ (ks.length : Int) - 1 ≤ big ∧ 2 ≤ (big : Int) ∧
    ForK S9 (forTg (stAt 9 1)) (forBody (stAt 9 1)) ((rangeL 0 ((ks.length : Int) - 1) 2).map Tr.int) [("octets", .val (.bytes ks)), ("start", .val (.int a)), ("total", .val (.int a))] (seqQ S9 ((fnAt 9).2.1.drop 2) Q X)) := by kernel_rfl
theorem w9t (ks : List Int) (a p t : Int) (N : Loc → Prop) (R : Tr → Loc → Prop) (M : PySem.Str → Tr → Loc → Prop) : TB S9 (forTg (stAt 9 1)) (forBody (stAt 9 1)) [("octets", .val (.bytes ks)), ("start", .val (.int a)), ("total", .val (.int t)), ("place", .val (.int p))] N R M =
  (0 ≤ p ∧ p < big ∧ ks.length ≤ big ∧ ∃ x, ks[p.toNat]? = some x ∧ 0 ≤ (8 : Int) ∧ (Builtin.Int.intBits x : Int) + 8 ≤ 2 ^ 27 ∧ 0 ≤ p + 1 ∧ p + 1 < big ∧ ks.length ≤ big ∧ ∃ y, ks[(p + 1).toNat]? = some y ∧
    N [("octets", .val (.bytes ks)), ("start", .val (.int a)), ("total", .val (.int (t + Builtin.bitOr (x * 2 ^ 8) y)))]) := by kernel_rfl
theorem w9e (ks : List Int) (a t : Int) (Q : Fl → Loc → Prop) (X : XE) : wpB S9 ((fnAt 9).2.1.drop 2) [("octets", .val (.bytes ks)), ("start", .val (.int a)), ("total", .val (.int t))] Q X =
  (ks.length ≤ big ∧ 0 < (2 : Int) ∧ ifW ((ks.length : Int) % 2 == 1)
    (ks.length ≤ big ∧ 0 ≤ (ks.length : Int) - 1 ∧ (ks.length : Int) - 1 < big ∧ ks.length ≤ big ∧ ∃ x, ks[((ks.length : Int) - 1).toNat]? = some x ∧ 0 ≤ (8 : Int) ∧ (Builtin.Int.intBits x : Int) + 8 ≤ 2 ^ 27 ∧ 0 ≤ t + x * 2 ^ 8 ∧
      Q (.ret (.int (fold (t + x * 2 ^ 8)))) [("octets", .val (.bytes ks)), ("start", .val (.int a)), ("total", .val (.int (t + x * 2 ^ 8)))])
    (0 ≤ t ∧ Q (.ret (.int (fold t))) [("octets", .val (.bytes ks)), ("start", .val (.int a)), ("total", .val (.int t))])) := by kernel_rfl
noncomputable def fill0 (ts : List Tr) : Option (List Tr) := match ts with
  | [a] => some [a, .int 0]
  | [a, b] => some [a, b]
  | _ => none
theorem fill_def {f cd T : Addr} {i : Nat} {name : PySem.Str} {names : List PySem.Str} {pym : Value} {pm : Params} {p q : PySem.Str} {tk : Tok} (hn : names = [p, q]) (hl : (kf pm).lookup f = some (fnO name name (fnAt i) (.ref T) pym cd)) (ok : defOk (kf pm) cd name names (fnAt i).2.2 = true) (hT : (kf pm).lookup T = some { cls := .type "tuple", data := .seq #[.int 0 tk] })
    (hb : ∀ a b, ∃ k, bindArgs (fnF name name (fnAt i) (.ref T) pym cd) ⟨[a, b], []⟩ = (seqItems? (.ref T) >>= k) ∧ k (some #[.int 0 tk]) = pure [(p, a), (q, b)]) (hd : ∀ a, ∃ k, bindArgs (fnF name name (fnAt i) (.ref T) pym cd) ⟨[a], []⟩ = (seqItems? (.ref T) >>= k) ∧ k (some #[.int 0 tk]) = pure [(p, a), (q, .int 0 tk)]) : Def (kf pm) f name (fnAt i).2.1 (fnAt i).2.2 (.ref cd) names fill0 := by
  subst hn
  refine c_defW hl ok (fun vs h s X => ?_) fun G P ts vs full hf d => ?_
  · obtain ⟨a, b, rfl⟩ := len2 h
    obtain ⟨k, h1, h2⟩ := hb a b
    exact BindsTo.of_defaults rfl (X _ _ hT) rfl h1 h2
  · unfold fill0 at hf
    split at hf
    · rename_i a
      cases hf
      obtain ⟨v, r, rfl, dv, rfl⟩ := d
      refine ⟨[v, .int 0 tk], ⟨_, _, rfl, dv, ⟨_, _, rfl, ⟨tk, rfl⟩, rfl⟩⟩, rfl, fun s X => ?_⟩
      obtain ⟨k, h1, h2⟩ := hd v
      exact BindsTo.of_defaults rfl (X _ _ hT) rfl h1 h2
    · rename_i a b
      cases hf
      obtain ⟨v, r, rfl, dv, u, r', rfl, du, rfl⟩ := d
      exact ⟨[v, u], ⟨_, _, rfl, dv, ⟨_, _, rfl, du, rfl⟩⟩, rfl, fun s X => let ⟨k, h1, h2⟩ := hb v u; BindsTo.of_defaults rfl (X _ _ hT) rfl h1 h2⟩
    · cases hf
theorem d_sum16 (pm : Params) : Def (kf pm) 92 "sum16" (fnAt 9).2.1 (fnAt 9).2.2 (.ref 91) ["octets", "start"] fill0 :=
  fill_def (T := 85) (tk := 282) (pym := .str "siftwall.octets" 251) rfl (by kernel_rfl) (by kernel_rfl) (by kernel_rfl) (fun a b => ⟨_, rfl, rfl⟩) fun a => ⟨_, rfl, rfl⟩
include B in
theorem c_sum16 : Contract prg w (g0 w.params) h₀ 2 (.ref 92) sSum16 :=
  contract_of (n := 1) (Γ := S9) B (d_sum16 w.params) (fun hr S k => mkFG (lib B) exN_ok (.fn (by kernel_rfl) (Nat.le_refl _) (c_folded B) .nil) (kind_of (K := kf w.params) (cd := 91) (q := "sum16") (names := ["octets", "start"]) (by kernel_rfl)) hr S k) (by kernel_rfl) fun ts Q X h => by
    have key : ∀ ks, oct ks → ks.length ≤ 1000 → ks.length % 2 = 0 → Q (.int (fold (num ks))) → wpB S9 (fnAt 9).2.1 [("octets", .val (.bytes ks)), ("start", .val (.int 0))] (endQ Q) (fun C y _ => X C y) := fun ks ho hl he hq => by
      refine use (w9 ks 0 _ _) ⟨by first | exact le_big (by assumption) | (rw [big_eq]; lia), by decide, by decide, by decide +kernel, by first | exact le_big (by assumption) | (rw [big_eq]; lia), by first | exact le_big (by assumption) | (rw [big_eq]; lia), by decide +kernel, ?_⟩
      refine forK_ints (fun i => [("octets", .val (.bytes ks)), ("start", .val (.int 0)), ("total", .val (.int (wsum ks i)))]) rfl (fun i n hn N hN => ?_) ?_
      · unfold rangeL at hn
        rw [List.getElem?_map] at hn
        obtain ⟨j, hj, rfl⟩ := Option.map_eq_some_iff.mp hn
        obtain ⟨hi, e⟩ := List.getElem?_eq_some_iff.mp hj
        rw [List.getElem_range] at e
        subst e
        rw [List.length_range] at hi
        have hlt : 2 * i + 1 < ks.length := by lia
        have g1 := dig_get (ks := ks) (k := 2 * i) (by lia)
        have g2 := dig_get (ks := ks) hlt
        have b1 := dig_oct ho (2 * i)
        have b2 := dig_oct ho (2 * i + 1)
        refine turn_of _ rfl (w9t ks 0 _ _ _ _ _) ⟨by lia, by first | exact le_big (by assumption) | (rw [big_eq]; lia), by first | exact le_big (by assumption) | (rw [big_eq]; lia), dig ks (2 * i), ?_, by decide, ?_, by lia, by first | exact le_big (by assumption) | (rw [big_eq]; lia), by first | exact le_big (by assumption) | (rw [big_eq]; lia), dig ks (2 * i + 1), ?_, ?_⟩
        · rw [show (0 + (i : Int) * 2).toNat = 2 * i by lia]; exact g1
        · have := bits_le (n := 8) b1.1 b1.2
          lia
        · rw [show (0 + (i : Int) * 2 + 1).toNat = 2 * i + 1 by lia]; exact g2
        · rw [or_shift 8 b1.1 b2.1 b2.2, show dig ks (2 * i) * 2 ^ 8 = 256 * dig ks (2 * i) from Int.mul_comm _ _]
          exact hN
      · rw [rangeL_len]
        have e : ((ks.length : Int) - 1 - 0 + 2 - 1) / 2 = (ks.length / 2 : Nat) := by lia
        rw [e, Int.toNat_natCast]
        have hw := wsum_num ho (ks.length / 2) (by lia)
        rw [show 2 * (ks.length / 2) = ks.length by lia, List.take_length] at hw
        refine use (w9e ks 0 _ _ _) ⟨by first | exact le_big (by assumption) | (rw [big_eq]; lia), by decide, ifW_of (fun q => ?_) fun _ => ⟨hw.1, ?_⟩⟩
        · have := beq_iff_eq.mp q
          lia
        · rw [fold_eq hw.1 (num_bound ho).1 hw.2.1 hw.2.2]
          exact hq
    obtain ⟨ks, r, rfl, h⟩ := aB_of (K := fun ks r => (match r with
      | [] => oct ks ∧ ks.length ≤ 1000 ∧ ks.length % 2 = 0 ∧ Q (.int (fold (num ks)))
      | t :: r => oneI (t :: r) fun a => a = 0 ∧ oct ks ∧ ks.length ≤ 1000 ∧ ks.length % 2 = 0 ∧ Q (.int (fold (num ks))))) h
    rcases r with _ | ⟨t, r⟩
    · exact ⟨_, rfl, key ks h.1 h.2.1 h.2.2.1 h.2.2.2⟩
    · obtain ⟨a, e, rfl, ho, hl, he, hq⟩ := oneI_of h
      cases e
      exact ⟨_, rfl, key ks ho hl he hq⟩

noncomputable abbrev S10 : Sig := sigOf exN [("sum16", .fn sSum16)]
theorem w10 (ks : List Int) (a : Int) (Q : Fl → Loc → Prop) (X : XE) : wpB S10 (fnAt 10).2.1 [("octets", .val (.bytes ks)), ("start", .val (.int a))] Q X =
  (a = 0 ∧ oct ks ∧ ks.length ≤ 1000 ∧ ks.length % 2 = 0 ∧ Q (.ret (.int (65535 - fold (num ks)))) [("octets", .val (.bytes ks)), ("start", .val (.int a))]) := by kernel_rfl
theorem d_check (pm : Params) : Def (kf pm) 100 "check_of" (fnAt 10).2.1 (fnAt 10).2.2 (.ref 99) ["octets", "start"] fill0 :=
  fill_def (T := 93) (tk := 293) (pym := .str "siftwall.octets" 251) rfl (by kernel_rfl) (by kernel_rfl) (by kernel_rfl) (fun a b => ⟨_, rfl, rfl⟩) fun a => ⟨_, rfl, rfl⟩
include B in
theorem c_check : Contract prg w (g0 w.params) h₀ 3 (.ref 100) sCheck :=
  contract_of (n := 2) (Γ := S10) B (d_check w.params) (fun hr S k => mkFG (lib B) exN_ok (.fn (by kernel_rfl) (Nat.le_refl _) (c_sum16 B) .nil) (kind_of (K := kf w.params) (cd := 99) (q := "check_of") (names := ["octets", "start"]) (by kernel_rfl)) hr S k) (by kernel_rfl) fun ts Q X h => by
    replace h := oneB_of h
    obtain ⟨ks, rfl, h⟩ := h
    · exact ⟨_, rfl, use (w10 ks 0 _ _) ⟨rfl, h⟩⟩
end
end Mine
end
section
open PySem PySem.W PySem.Spec PySem.Calls PyProof.Rows
set_option Elab.async false
namespace Mine
set_option tactic.hygienic false
set_option maxRecDepth 100000

theorem cut1 {Γ : Sig} {c : List Stmt} (j : Nat) {ρ : Loc} {Q : Fl → Loc → Prop} {X : XE} (h : wpB Γ ((c.drop j).take 1) ρ (seqQ Γ (c.drop (j + 1)) Q X) X) : wpB Γ (c.drop j) ρ Q X := by
  refine wpB_split 1 ?_
  rw [List.drop_drop]
  exact h
theorem sl_len {ks : List Int} {a b : Nat} (h : b ≤ ks.length) : (sl ks a b).length = b - a := by unfold sl; rw [List.length_drop, List.length_take]; lia
theorem sl_oct {ks : List Int} (ho : oct ks) (a b : Nat) : oct (sl ks a b) := oct_drop (oct_take ho b) a
theorem sl_succ {ks : List Int} {a b : Nat} (hab : a ≤ b) (h : b < ks.length) : sl ks a (b + 1) = sl ks a b ++ [dig ks b] := by
  unfold sl
  rw [List.take_add_one, dig_get h]
  rw [List.drop_append_of_le_length (by rw [List.length_take]; lia)]
  rfl
theorem sl_self (ks : List Int) (a : Nat) : sl ks a a = [] := by
  unfold sl
  exact List.drop_eq_nil_of_le (by rw [List.length_take]; lia)
theorem sl_two {ks : List Int} {a : Nat} (h : a + 2 ≤ ks.length) : sl ks a (a + 2) = [dig ks a, dig ks (a + 1)] := by
  rw [sl_succ (by lia) (by lia), sl_succ (by lia) (by lia), sl_self]; rfl
theorem num_two {ks : List Int} {a : Nat} (h : a + 2 ≤ ks.length) : num (sl ks a (a + 2)) = 256 * dig ks a + dig ks (a + 1) := by
  rw [sl_two h]; unfold num; simp

section
variable {w : World} {h₀ : Heap} (B : Base prg w (kf w.params) h₀)

noncomputable abbrev S13 : Sig := sigOf exM [("number_of", .fn sNumber), ("sum16", .fn sSum16)]
noncomputable abbrev l13 (ks : List Int) : Loc := [("octets", .val (.bytes ks))]
noncomputable abbrev l13h (ks : List Int) (h : Int) : Loc := [("octets", .val (.bytes ks)), ("head", .val (.int h))]
noncomputable abbrev l13t (ks : List Int) (h t : Int) : Loc := [("octets", .val (.bytes ks)), ("head", .val (.int h)), ("total", .val (.int t))]
noncomputable abbrev b13 : List Stmt := (fnAt 13).2.1
theorem w13_0 (ks : List Int) (Q : Fl → Loc → Prop) (X : XE) : wpB S13 ((b13.drop 0).take 1) (l13 ks) Q X = (ks.length ≤ big ∧ ifW (decide ((ks.length : Int) < 20)) (X 56 "truncated head" (l13 ks)) (Q .next (l13 ks))) := by kernel_rfl
theorem w13_1 (ks : List Int) (Q : Fl → Loc → Prop) (X : XE) : wpB S13 ((b13.drop 1).take 1) (l13 ks) Q X = (0 ≤ (0 : Int) ∧ (0 : Int) < big ∧ ks.length ≤ big ∧ ∃ x, ks[0]? = some x ∧ 0 ≤ (4 : Int) ∧ ifW (x / 16 != 4) (X 56 "bad version" (l13 ks)) (Q .next (l13 ks))) := by kernel_rfl
theorem w13_2 (ks : List Int) (Q : Fl → Loc → Prop) (X : XE) : wpB S13 ((b13.drop 2).take 1) (l13 ks) Q X = (0 ≤ (0 : Int) ∧ (0 : Int) < big ∧ ks.length ≤ big ∧ ∃ x, ks[0]? = some x ∧ IntMulOk (Builtin.bitAnd x 15) 4 ∧ Q .next (l13h ks (Builtin.bitAnd x 15 * 4))) := by kernel_rfl
theorem w13_3 (ks : List Int) (h : Int) (Q : Fl → Loc → Prop) (X : XE) : wpB S13 ((b13.drop 3).take 1) (l13h ks h) Q X = orW (decide (h < 20)) (ks.length ≤ big ∧ orW (decide ((ks.length : Int) < h)) (ifW false (X 56 "bad head length" (l13h ks h)) (Q .next (l13h ks h))) (fun c => ifW c (X 56 "bad head length" (l13h ks h)) (Q .next (l13h ks h)))) (fun c => ifW c (X 56 "bad head length" (l13h ks h)) (Q .next (l13h ks h))) := by kernel_rfl
theorem w13_4 (ks : List Int) (h : Int) (Q : Fl → Loc → Prop) (X : XE) : wpB S13 ((b13.drop 4).take 1) (l13h ks h) Q X = (0 ≤ (2 : Int) ∧ 0 ≤ (4 : Int) ∧ ks.length ≤ big ∧ oct (sl ks 2 4) ∧ (sl ks 2 4).length ≤ 1000 ∧ Q .next (l13t ks h (num (sl ks 2 4)))) := by kernel_rfl
theorem w13_5 (ks : List Int) (h t : Int) (Q : Fl → Loc → Prop) (X : XE) : wpB S13 ((b13.drop 5).take 1) (l13t ks h t) Q X = orW (decide (t < h)) (ks.length ≤ big ∧ orW (decide ((ks.length : Int) < t)) (ifW false (X 56 "bad total length" (l13t ks h t)) (Q .next (l13t ks h t))) (fun c => ifW c (X 56 "bad total length" (l13t ks h t)) (Q .next (l13t ks h t)))) (fun c => ifW c (X 56 "bad total length" (l13t ks h t)) (Q .next (l13t ks h t))) := by kernel_rfl
theorem w13_6 (ks : List Int) (h t : Int) (Q : Fl → Loc → Prop) (X : XE) : wpB S13 ((b13.drop 6).take 1) (l13t ks h t) Q X = (True ∧ 0 ≤ h ∧ ks.length ≤ big ∧ oct (ks.take h.toNat) ∧ (ks.take h.toNat).length ≤ 1000 ∧ (ks.take h.toNat).length % 2 = 0 ∧ ifW (fold (num (ks.take h.toNat)) != 65535) (X 56 "bad head sum" (l13t ks h t)) (Q .next (l13t ks h t))) := by kernel_rfl
theorem w13_7 (ks : List Int) (h t : Int) (Q : Fl → Loc → Prop) (X : XE) : wpB S13 (b13.drop 7) (l13t ks h t) Q X = Q (.ret (.tup [.int h, .int t])) (l13t ks h t) := by kernel_rfl
theorem or_of2 {c d : Bool} {p : Prop} {K : Bool → Prop} (hp : c = false → p) (h : K (c || d)) : orW c (p ∧ orW d (K false) K) K := by
  cases c with
  | true => exact ⟨fun e => (nomatch e), fun _ => h⟩
  | false =>
    refine ⟨fun _ => ⟨hp rfl, ?_⟩, fun e => (nomatch e)⟩
    cases d with
    | true => exact ⟨fun e => (nomatch e), fun _ => h⟩
    | false => exact ⟨fun _ => h, fun e => (nomatch e)⟩
theorem or_if {c d : Bool} {p a b : Prop} (hp : c = false → p) (ha : (c || d) = true → a) (hb : (c || d) = false → b) : orW c (p ∧ orW d (ifW false a b) (fun c => ifW c a b)) (fun c => ifW c a b) := or_of2 (K := fun c => ifW c a b) hp ⟨ha, hb⟩
theorem or_true {p q : Prop} [Decidable p] [Decidable q] : (decide p || decide q) = true ↔ p ∨ q := by simp
theorem or_false {p q : Prop} [Decidable p] [Decidable q] : (decide p || decide q) = false ↔ ¬ (p ∨ q) := by simp

include B in
theorem c_head : Contract prg w (g0 w.params) h₀ 4 (.ref 128) sHeadOf :=
  mkC (n := 3) (ex := exM) (l := [("number_of", .fn sNumber), ("sum16", .fn sSum16)]) (i := 13) (cd := 127) (name := "head_of") (names := ["octets"]) (pym := .str "siftwall.ipv4" 302) B (by kernel_rfl) (by kernel_rfl) (fun vs h => by
    obtain ⟨a, rfl⟩ := len1 h
    kernel_rfl) (by kernel_rfl) (exM_ok (Nat.le_refl _)) (.fn (by kernel_rfl) (by decide) (c_number B) (.fn (by kernel_rfl) (by decide) (c_sum16 B) .nil)) fun ts Q X h => by
    replace h := oneB_of h
    obtain ⟨ks, rfl, h⟩ := h
    · obtain ⟨ho, hl, hX, hQ⟩ := h
      have hz : ks.length ≤ big := by first | exact le_big (by assumption) | (rw [big_eq]; lia)
      refine ⟨rfl, show wpB S13 (b13.drop 0) (l13 ks) _ _ from cut1 0 (use (w13_0 ks _ _) ⟨hz, ifW_of (fun e => ?_) fun e => ?_⟩)⟩
      · have e' := of_decide_eq_true e
        exact hX _ (by unfold headR; rw [if_pos (by lia)])
      have hlen : ¬ ks.length < 20 := by have := of_decide_eq_false e; lia
      have g0 := dig_get (ks := ks) (k := 0) (by lia)
      have b0 := dig_oct ho 0
      refine cut1 1 (use (w13_1 ks _ _) ⟨by decide, by decide +kernel, hz, dig ks 0, g0, by decide, ifW_of (fun e => ?_) fun e => ?_⟩)
      · exact hX _ (by unfold headR; rw [if_neg hlen, if_pos (bne_iff_ne.mp e)])
      have hver : ¬ dig ks 0 / 16 ≠ 4 := fun q => q (by simpa using e)
      refine cut1 2 (use (w13_2 ks _ _) ⟨by decide, by decide +kernel, hz, dig ks 0, g0, IntMulOk.of_right (by decide +kernel), ?_⟩)
      have hm := and_mask 4 b0.1
      rw [show ((2 : Int) ^ 4 - 1) = 15 from rfl, show ((2 : Int) ^ 4) = 16 from rfl] at hm
      rw [hm]
      refine cut1 3 (use (w13_3 ks _ _ _) (or_if (fun _ => hz) (fun e => ?_) fun e => ?_))
      · exact hX _ (by unfold headR; rw [if_neg hlen, if_neg hver, if_pos (or_true.mp e)])
      have hhd := or_false.mp e
      refine cut1 4 (use (w13_4 ks _ _ _) ⟨by decide, by decide, hz, sl_oct ho _ _, by rw [sl_len (by lia)]; lia, ?_⟩)
      rw [num_two (a := 2) (by lia)]
      refine cut1 5 (use (w13_5 ks _ _ _ _) (or_if (fun _ => hz) (fun e => ?_) fun e => ?_))
      · exact hX _ (by unfold headR; rw [if_neg hlen, if_neg hver, if_neg hhd, if_pos (or_true.mp e)])
      have htt := or_false.mp e
      refine cut1 6 (use (w13_6 ks _ _ _ _) ⟨trivial, by lia, hz, oct_take ho _, by rw [List.length_take]; lia, by rw [List.length_take]; lia, ifW_of (fun e => ?_) fun e => ?_⟩)
      · exact hX _ (by unfold headR; rw [if_neg hlen, if_neg hver, if_neg hhd, if_neg htt, if_pos (bne_iff_ne.mp e)])
      · have hs : ¬ fold (num (ks.take (dig ks 0 % 16 * 4).toNat)) ≠ 65535 := by
          have := e
          simp only [bne, Bool.not_eq_false'] at this
          exact fun q => q (beq_iff_eq.mp this)
        exact use (w13_7 ks _ _ _ _) (hQ _ _ (by unfold headR; rw [if_neg hlen, if_neg hver, if_neg hhd, if_neg htt, if_neg hs]))
end
end Mine
end
section
open PySem PySem.W PySem.Spec PySem.Calls PyProof.Rows
set_option Elab.async false
namespace Mine
set_option tactic.hygienic false
set_option maxRecDepth 100000

/-- an octet is read -/
noncomputable def itB (ks : List Int) (k : Int) (K : Int → Prop) : Prop := 0 ≤ k ∧ k < big ∧ ks.length ≤ big ∧ ∃ x, ks[k.toNat]? = some x ∧ K x
theorem itB_of {ks : List Int} (k : Nat) {K : Int → Prop} (hl : ks.length ≤ 1000) (hk : k < ks.length) (h : K (dig ks k)) : itB ks k K :=
  ⟨Int.natCast_nonneg _, by first | exact le_big (by assumption) | (rw [big_eq]; lia), by first | exact le_big (by assumption) | (rw [big_eq]; lia), dig ks k, by rw [Int.toNat_natCast]; exact dig_get hk, h⟩
/-- a slice -/
noncomputable def slI (ks : List Int) (a b : Int) (K : List Int → Prop) : Prop := 0 ≤ a ∧ 0 ≤ b ∧ ks.length ≤ big ∧ K (sl ks a.toNat b.toNat)
theorem slI_of {ks : List Int} {a b : Int} {K : List Int → Prop} (ha : 0 ≤ a) (hb : 0 ≤ b) (hl : ks.length ≤ 1000) (h : K (sl ks a.toNat b.toNat)) : slI ks a b K := ⟨ha, hb, by first | exact le_big (by assumption) | (rw [big_eq]; lia), h⟩

theorem and_3 {x : Int} (h : 0 ≤ x) : Builtin.bitAnd x 3 = x % 4 := by
  have := and_mask 2 h
  rwa [show ((2 : Int) ^ 2 - 1) = 3 from rfl, show ((2 : Int) ^ 2) = 4 from rfl] at this
theorem and_8191 {x : Int} (h : 0 ≤ x) : Builtin.bitAnd x 8191 = x % 8192 := by
  have := and_mask 13 h
  rwa [show ((2 : Int) ^ 13 - 1) = 8191 from rfl, show ((2 : Int) ^ 13) = 8192 from rfl] at this
noncomputable def sIp : Spec := fun ts Q _ => aT ts fun a r => aT r fun b r => aT r fun c r => aT r fun d r => aZ r (Q (.ip [a, b, c, d, .int 64, .int 0, .int 0, .int 0, .int 0, .int 0, .bytes []]))

section
variable {w : World} {h₀ : Heap} (B : Base prg w (kf w.params) h₀)

theorem w12 (a b c d : Tr) (Q : Fl → Loc → Prop) (X : XE) : wpB S0 (clsFn 12).2.1 [("self", .mu (.ip [])), ("source", .val a), ("target", .val b), ("protocol", .val c), ("data", .val d)] Q X =
  (ipIx "source" ≤ 0 ∧ ipIx "source" < 11 ∧ ipIx "target" ≤ 1 ∧ ipIx "target" < 11 ∧ ipIx "protocol" ≤ 2 ∧ ipIx "protocol" < 11 ∧ ipIx "data" ≤ 3 ∧ ipIx "data" < 11 ∧ ipIx "ttl" ≤ 4 ∧ ipIx "ttl" < 11 ∧ ipIx "ident" ≤ 5 ∧ ipIx "ident" < 11 ∧ ipIx "flags" ≤ 6 ∧ ipIx "flags" < 11 ∧
    ipIx "place" ≤ 7 ∧ ipIx "place" < 11 ∧ ipIx "dscp" ≤ 8 ∧ ipIx "dscp" < 11 ∧ ipIx "ecn" ≤ 9 ∧ ipIx "ecn" < 11 ∧ ipIx "options" ≤ 10 ∧ ipIx "options" < 11 ∧
    Q .next [("self", .mu (.ip [a, b, c, d, .int 64, .int 0, .int 0, .int 0, .int 0, .int 0, .bytes []])), ("source", .val a), ("target", .val b), ("protocol", .val c), ("data", .val d)]) := by kernel_rfl
theorem d_ip (pm : Params) : Def (kf pm) 114 "Ip4.__init__" (clsFn 12).2.1 (clsFn 12).2.2 (.ref 113) (sfN :: ["source", "target", "protocol", "data"]) (fun ts => if ts.length = 5 then some ts else none) :=
  c_def (name := "__init__") (dV := .none) (pym := .str "siftwall.ipv4" 302) (x := clsFn 12) (names := sfN :: ["source", "target", "protocol", "data"]) (by kernel_rfl) (by kernel_rfl) fun vs h => by
    obtain ⟨a, b, c, d, e, rfl⟩ := len5 h
    kernel_rfl
include B in
theorem c_ip : ContractN prg w (g0 w.params) h₀ 2 (.ref 117) sIp :=
  ip_new (n := 0) (fI := 114) (Γ := S0) B (by kernel_rfl) (by kernel_rfl) (by kernel_rfl) (d_ip w.params) (fun hr S k => mkFG (lib B) exN_ok .nil (by kernel_rfl) hr S k) (by kernel_rfl) fun ts Q X h => by
    replace h := aT_of h
    obtain ⟨a, r, rfl, h⟩ := h
    replace h := aT_of h
    obtain ⟨b, r, rfl, h⟩ := h
    replace h := aT_of h
    obtain ⟨c, r, rfl, h⟩ := h
    replace h := aT_of h
    obtain ⟨d, r, rfl, h⟩ := h
    replace h := aZ_of h
    obtain ⟨rfl, h⟩ := h
    · exact ⟨rfl, use (w12 a b c d _ _) ⟨by decide +kernel, by decide +kernel, by decide +kernel, by decide +kernel, by decide +kernel, by decide +kernel, by decide +kernel, by decide +kernel, by decide +kernel, by decide +kernel, by decide +kernel, by decide +kernel, by decide +kernel, by decide +kernel, by decide +kernel, by decide +kernel, by decide +kernel, by decide +kernel, by decide +kernel, by decide +kernel, by decide +kernel, by decide +kernel, _, rfl, h⟩⟩

noncomputable abbrev S14 : Sig := sigOf exN [("head_of", .fn sHeadOf), ("number_of", .fn sNumber), ("Ip4", .new sIp)]
noncomputable abbrev b14 : List Stmt := (fnAt 14).2.1
noncomputable abbrev l14 (ks : List Int) (h t : Int) : Loc := [("octets", .val (.bytes ks)), ("head", .val (.int h)), ("total", .val (.int t))]
noncomputable abbrev l14i (ks : List Int) (h t : Int) (i : Ip) : Loc := [("octets", .val (.bytes ks)), ("head", .val (.int h)), ("total", .val (.int t)), ("ip", .mu i.tr)]
noncomputable abbrev l14w (ks : List Int) (h t : Int) (i : Ip) (u : Int) : Loc := [("octets", .val (.bytes ks)), ("head", .val (.int h)), ("total", .val (.int t)), ("ip", .mu i.tr), ("word", .val (.int u))]
theorem w14_0 (ks : List Int) (Q : Fl → Loc → Prop) (X : XE) : wpB S14 ((b14.drop 0).take 1) (l13 ks) Q X = (oct ks ∧ ks.length ≤ 1000 ∧ (∀ e, headR ks = .error e → X 56 e (l13 ks)) ∧ ∀ h t, headR ks = .ok (h, t) → ∃ ρ2, some (l14 ks h t) = some ρ2 ∧ Q .next ρ2) := by kernel_rfl
theorem w14_1 (ks : List Int) (h t : Int) (Q : Fl → Loc → Prop) (X : XE) : wpB S14 ((b14.drop 1).take 1) (l14 ks h t) Q X = slI ks 12 16 fun a => oct a ∧ a.length ≤ 1000 ∧ slI ks 16 20 fun b => oct b ∧ b.length ≤ 1000 ∧ itB ks 9 fun c => slI ks h t fun d =>
  Q .next (l14i ks h t ⟨num a, num b, c, d, 64, 0, 0, 0, 0, 0, []⟩) := by kernel_rfl
theorem w14_2 (ks : List Int) (h t : Int) (s g p : Int) (d : List Int) (tl id fl pl ds ec : Int) (op : List Int) (Q : Fl → Loc → Prop) (X : XE) : wpB S14 ((b14.drop 2).take 1) (l14i ks h t ⟨s, g, p, d, tl, id, fl, pl, ds, ec, op⟩) Q X = itB ks 1 fun x => 0 ≤ (2 : Int) ∧ ipIx "dscp" ≤ 11 ∧ ipIx "dscp" < 11 ∧ Q .next (l14i ks h t ⟨s, g, p, d, tl, id, fl, pl, x / 4, ec, op⟩) := by kernel_rfl
theorem w14_3 (ks : List Int) (h t : Int) (s g p : Int) (d : List Int) (tl id fl pl ds ec : Int) (op : List Int) (Q : Fl → Loc → Prop) (X : XE) : wpB S14 ((b14.drop 3).take 1) (l14i ks h t ⟨s, g, p, d, tl, id, fl, pl, ds, ec, op⟩) Q X = itB ks 1 fun x => ipIx "ecn" ≤ 11 ∧ ipIx "ecn" < 11 ∧ Q .next (l14i ks h t ⟨s, g, p, d, tl, id, fl, pl, ds, Builtin.bitAnd x 3, op⟩) := by kernel_rfl
theorem w14_4 (ks : List Int) (h t : Int) (s g p : Int) (d : List Int) (tl id fl pl ds ec : Int) (op : List Int) (Q : Fl → Loc → Prop) (X : XE) : wpB S14 ((b14.drop 4).take 1) (l14i ks h t ⟨s, g, p, d, tl, id, fl, pl, ds, ec, op⟩) Q X = slI ks 4 6 fun a => oct a ∧ a.length ≤ 1000 ∧ ipIx "ident" ≤ 11 ∧ ipIx "ident" < 11 ∧ Q .next (l14i ks h t ⟨s, g, p, d, tl, num a, fl, pl, ds, ec, op⟩) := by kernel_rfl
theorem w14_5 (ks : List Int) (h t : Int) (s g p : Int) (d : List Int) (tl id fl pl ds ec : Int) (op : List Int) (Q : Fl → Loc → Prop) (X : XE) : wpB S14 ((b14.drop 5).take 1) (l14i ks h t ⟨s, g, p, d, tl, id, fl, pl, ds, ec, op⟩) Q X = slI ks 6 8 fun a => oct a ∧ a.length ≤ 1000 ∧ Q .next (l14w ks h t ⟨s, g, p, d, tl, id, fl, pl, ds, ec, op⟩ (num a)) := by kernel_rfl
theorem w14_6 (ks : List Int) (h t : Int) (s g p : Int) (d : List Int) (tl id fl pl ds ec : Int) (op : List Int) (u : Int) (Q : Fl → Loc → Prop) (X : XE) : wpB S14 ((b14.drop 6).take 1) (l14w ks h t ⟨s, g, p, d, tl, id, fl, pl, ds, ec, op⟩ u) Q X = (0 ≤ (13 : Int) ∧ ipIx "flags" ≤ 11 ∧ ipIx "flags" < 11 ∧ Q .next (l14w ks h t ⟨s, g, p, d, tl, id, u / 8192, pl, ds, ec, op⟩ u)) := by kernel_rfl
theorem w14_7 (ks : List Int) (h t : Int) (s g p : Int) (d : List Int) (tl id fl pl ds ec : Int) (op : List Int) (u : Int) (Q : Fl → Loc → Prop) (X : XE) : wpB S14 ((b14.drop 7).take 1) (l14w ks h t ⟨s, g, p, d, tl, id, fl, pl, ds, ec, op⟩ u) Q X = (IntMulOk (Builtin.bitAnd u 8191) 8 ∧ ipIx "place" ≤ 11 ∧ ipIx "place" < 11 ∧ Q .next (l14w ks h t ⟨s, g, p, d, tl, id, fl, Builtin.bitAnd u 8191 * 8, ds, ec, op⟩ u)) := by kernel_rfl
theorem w14_8 (ks : List Int) (h t : Int) (s g p : Int) (d : List Int) (tl id fl pl ds ec : Int) (op : List Int) (u : Int) (Q : Fl → Loc → Prop) (X : XE) : wpB S14 ((b14.drop 8).take 1) (l14w ks h t ⟨s, g, p, d, tl, id, fl, pl, ds, ec, op⟩ u) Q X = itB ks 8 fun x => ipIx "ttl" ≤ 11 ∧ ipIx "ttl" < 11 ∧ Q .next (l14w ks h t ⟨s, g, p, d, x, id, fl, pl, ds, ec, op⟩ u) := by kernel_rfl
theorem w14_9 (ks : List Int) (h t : Int) (s g p : Int) (d : List Int) (tl id fl pl ds ec : Int) (op : List Int) (u : Int) (Q : Fl → Loc → Prop) (X : XE) : wpB S14 ((b14.drop 9).take 1) (l14w ks h t ⟨s, g, p, d, tl, id, fl, pl, ds, ec, op⟩ u) Q X = slI ks 20 h fun a => ipIx "options" ≤ 11 ∧ ipIx "options" < 11 ∧ Q .next (l14w ks h t ⟨s, g, p, d, tl, id, fl, pl, ds, ec, a⟩ u) := by kernel_rfl
theorem w14_10 (ks : List Int) (h t : Int) (s g p : Int) (d : List Int) (tl id fl pl ds ec : Int) (op : List Int) (u : Int) (Q : Fl → Loc → Prop) (X : XE) : wpB S14 (b14.drop 10) (l14w ks h t ⟨s, g, p, d, tl, id, fl, pl, ds, ec, op⟩ u) Q X = Q (.retm "ip" (Ip.tr ⟨s, g, p, d, tl, id, fl, pl, ds, ec, op⟩)) (l14w ks h t ⟨s, g, p, d, tl, id, fl, pl, ds, ec, op⟩ u) := by kernel_rfl

theorem r14_3 (ks : List Int) (h t : Int) (s g p : Int) (d : List Int) (tl id fl pl ds ec : Int) (op : List Int) {Q : Fl → Loc → Prop} {X : XE} (ho : oct ks) (hl : ks.length ≤ 1000) (hk : 1 < ks.length) (hq : Q .next (l14i ks h t ⟨s, g, p, d, tl, id, fl, pl, ds, dig ks 1 % 4, op⟩)) : wpB S14 ((b14.drop 3).take 1) (l14i ks h t ⟨s, g, p, d, tl, id, fl, pl, ds, ec, op⟩) Q X :=
  use (w14_3 ks h t s g p d tl id fl pl ds ec op Q X) (itB_of 1 hl hk ⟨by decide +kernel, by decide +kernel, by rw [and_3 (dig_oct ho 1).1]; exact hq⟩)
theorem r14_7 (ks : List Int) (h t : Int) (s g p : Int) (d : List Int) (tl id fl pl ds ec : Int) (op : List Int) (u : Int) {Q : Fl → Loc → Prop} {X : XE} (hu : 0 ≤ u) (hq : Q .next (l14w ks h t ⟨s, g, p, d, tl, id, fl, u % 8192 * 8, ds, ec, op⟩ u)) : wpB S14 ((b14.drop 7).take 1) (l14w ks h t ⟨s, g, p, d, tl, id, fl, pl, ds, ec, op⟩ u) Q X :=
  use (w14_7 ks h t s g p d tl id fl pl ds ec op u Q X) ⟨IntMulOk.of_right (by decide +kernel), by decide +kernel, by decide +kernel, by rw [and_8191 hu]; exact hq⟩

theorem r14_9 (ks : List Int) (h t : Int) (s g p : Int) (d : List Int) (tl id fl pl ds ec : Int) (op : List Int) (u : Int) {Q : Fl → Loc → Prop} {X : XE} (hl : ks.length ≤ 1000) (hh : 0 ≤ h) (hq : Q .next (l14w ks h t ⟨s, g, p, d, tl, id, fl, pl, ds, ec, sl ks 20 h.toNat⟩ u)) : wpB S14 ((b14.drop 9).take 1) (l14w ks h t ⟨s, g, p, d, tl, id, fl, pl, ds, ec, op⟩ u) Q X :=
  use (w14_9 ks h t s g p d tl id fl pl ds ec op u Q X) (slI_of (by decide) hh hl ⟨by decide +kernel, by decide +kernel, hq⟩)
theorem r14_10 (ks : List Int) (h t : Int) (s g p : Int) (d : List Int) (tl id fl pl ds ec : Int) (op : List Int) (u : Int) {Q : Tr → Prop} {X : XE} (hq : Q (Ip.tr ⟨s, g, p, d, tl, id, fl, pl, ds, ec, op⟩)) : wpB S14 (b14.drop 10) (l14w ks h t ⟨s, g, p, d, tl, id, fl, pl, ds, ec, op⟩ u) (endN Q) X := use (w14_10 ks h t s g p d tl id fl pl ds ec op u _ X) hq

/-- what a head that is taken says of its octets -/
structure HeadOk (ks : List Int) (h t : Int) : Prop where
  len : 20 ≤ ks.length
  ver : dig ks 0 / 16 = 4
  he : h = dig ks 0 % 16 * 4
  lo : 20 ≤ h
  hi : h ≤ ks.length
  te : t = 256 * dig ks 2 + dig ks 3
  tlo : h ≤ t
  thi : t ≤ ks.length
  sum : fold (num (ks.take h.toNat)) = 65535
theorem headOk_of {ks : List Int} {h t : Int} (e : headR ks = .ok (h, t)) : HeadOk ks h t := by
  unfold headR at e
  split at e
  · cases e
  rename_i e1
  split at e
  · cases e
  rename_i e2
  split at e
  · cases e
  rename_i e3
  split at e
  · cases e
  rename_i e4
  split at e
  · cases e
  rename_i e5
  cases e
  exact ⟨by lia, Decidable.of_not_not e2, rfl, by lia, by lia, rfl, by lia, by lia, Decidable.of_not_not e5⟩

include B in
theorem c_read : ContractN prg w (g0 w.params) h₀ 5 (.ref 135) sRead :=
  mkN (n := 4) (ex := exN) (l := [("head_of", .fn sHeadOf), ("number_of", .fn sNumber), ("Ip4", .new sIp)]) (i := 14) (cd := 134) (name := "read_ipv4") (names := ["octets"]) (pym := .str "siftwall.ipv4" 302) B (by kernel_rfl) (by kernel_rfl) (fun vs h => by
    obtain ⟨a, rfl⟩ := len1 h
    kernel_rfl) (by kernel_rfl) exN_ok (.fn (by kernel_rfl) (by decide) (c_head B) (.fn (by kernel_rfl) (by decide) (c_number B) (.new (by kernel_rfl) (by decide) (c_ip B) .nil))) fun ts Q X h => by
    replace h := oneB_of h
    obtain ⟨ks, rfl, h⟩ := h
    · obtain ⟨ho, hl, hX, hQ⟩ := h
      refine ⟨rfl, show wpB S14 (b14.drop 0) (l13 ks) _ _ from cut1 0 (use (w14_0 ks _ _) ⟨ho, hl, hX, fun h t e => ⟨_, rfl, ?_⟩⟩)⟩
      have H := headOk_of e
      have hlen := H.len
      have hlo := H.lo
      have htlo := H.tlo
      have hh : 0 ≤ h := by lia
      have ht : 0 ≤ t := by lia
      have k1 : 1 < ks.length := by lia
      have k8 : 8 < ks.length := by lia
      have k9 : 9 < ks.length := by lia
      refine cut1 1 (use (w14_1 ks h t _ _) (slI_of (by decide) (by decide) hl ⟨sl_oct ho _ _, by rw [sl_len (by show 16 ≤ _; lia)]; decide, slI_of (by decide) (by decide) hl ⟨sl_oct ho _ _, by rw [sl_len (by show 20 ≤ _; lia)]; decide, itB_of 9 hl k9 (slI_of hh ht hl ?_)⟩⟩))
      refine cut1 2 (use (w14_2 ks h t _ _ _ _ _ _ _ _ _ _ _ _ _) (itB_of 1 hl k1 ⟨by decide, by decide +kernel, by decide +kernel, ?_⟩))
      refine cut1 3 (r14_3 ks h t _ _ _ _ _ _ _ _ _ _ _ ho hl k1 ?_)
      refine cut1 4 (use (w14_4 ks h t _ _ _ _ _ _ _ _ _ _ _ _ _) (slI_of (by decide) (by decide) hl ⟨sl_oct ho _ _, by rw [sl_len (by show 6 ≤ _; lia)]; decide, by decide +kernel, by decide +kernel, ?_⟩))
      refine cut1 5 (use (w14_5 ks h t _ _ _ _ _ _ _ _ _ _ _ _ _) (slI_of (by decide) (by decide) hl ⟨sl_oct ho _ _, by rw [sl_len (by show 8 ≤ _; lia)]; decide, ?_⟩))
      refine cut1 6 (use (w14_6 ks h t _ _ _ _ _ _ _ _ _ _ _ _ _ _) ⟨by decide, by decide +kernel, by decide +kernel, ?_⟩)
      refine cut1 7 (r14_7 ks h t _ _ _ _ _ _ _ _ _ _ _ _ (num_bound (sl_oct ho 6 8)).1 ?_)
      refine cut1 8 (use (w14_8 ks h t _ _ _ _ _ _ _ _ _ _ _ _ _ _) (itB_of 8 hl k8 ⟨by decide +kernel, by decide +kernel, ?_⟩))
      refine cut1 9 (r14_9 ks h t _ _ _ _ _ _ _ _ _ _ _ _ hl hh ?_)
      exact r14_10 ks h t _ _ _ _ _ _ _ _ _ _ _ _ (hQ h t e)

noncomputable abbrev S15 : Sig := sigOf exN [("pad4", .fn sPad4)]
theorem w15 (i : Ip) (Q : Fl → Loc → Prop) (X : XE) : wpB S15 (fnAt 15).2.1 [("ip", .val i.tr)] Q X =
  (∃ x, some (Tr.bytes i.opts) = some x ∧ sPad4 [x] (fun t => lenW t fun t => ∃ y, some (Tr.bytes i.data) = some y ∧ binW .Add (.int 20) t fun t => lenW y fun u => binW .Add t u fun r => Q (.ret r) [("ip", .val i.tr)]) (fun c y => X c y [("ip", .val i.tr)])) := by kernel_rfl
end
end Mine
end
section
open PySem PySem.W PySem.Spec PySem.Calls PyProof.Rows
set_option Elab.async false
namespace Mine
set_option tactic.hygienic false
set_option maxRecDepth 100000

theorem pad_len (ks : List Int) : (pad ks).length = (ks.length + 3) / 4 * 4 := by
  unfold pad
  rw [List.length_append, List.length_replicate]
  have h4 := Int.emod_nonneg (-(ks.length : Int)) (show (4 : Int) ≠ 0 by decide)
  lia
theorem pad_oct {ks : List Int} (ho : oct ks) : oct (pad ks) := oct_append.mpr ⟨ho, fun k hk => by rw [List.eq_of_mem_replicate hk]; decide⟩
noncomputable abbrev ipT (a b c : Int) (d : List Int) (e f g h i j : Int) (o : List Int) : Tr := .ip [.int a, .int b, .int c, .bytes d, .int e, .int f, .int g, .int h, .int i, .int j, .bytes o]
/-- an field is read -/
noncomputable def atW (x : PySem.Str) (fs : List Tr) (K : Tr → Prop) : Prop := ∃ t, fs[ipIx x]? = some t ∧ K t

section
variable {w : World} {h₀ : Heap} (B : Base prg w (kf w.params) h₀)
include B in
theorem c_total : Contract prg w (g0 w.params) h₀ 2 (.ref 142) sTotal :=
  mkC (n := 1) (ex := exN) (l := [("pad4", .fn sPad4)]) (i := 15) (cd := 141) (name := "total_of") (names := ["ip"]) (pym := .str "siftwall.ipv4" 302) B (by kernel_rfl) (by kernel_rfl) (fun vs h => by
    obtain ⟨a, rfl⟩ := len1 h
    kernel_rfl) (by kernel_rfl) exN_ok (.fn (by kernel_rfl) (by decide) (c_pad4 B) .nil) fun ts Q X h => by
    replace h := ipL_of h
    obtain ⟨I, rfl, h⟩ := h
    · obtain ⟨hk, hq⟩ := h
      have h1 := hk.1
      have h2 := hk.2
      refine ⟨rfl, use (w15 I _ _) ⟨_, rfl, h1, ?_, ⟨_, rfl, ?_, hq⟩⟩⟩
      · rw [pad_len, big_eq]; lia
      · rw [big_eq]; lia

noncomputable abbrev S16 : Sig := sigOf exM [("total_of", .fn sTotal)]
noncomputable abbrev b16 : List Stmt := (fnAt 16).2.1
noncomputable abbrev lip (i : Ip) : Loc := [("ip", .val i.tr)]
theorem w16_0 (i : Ip) (Q : Fl → Loc → Prop) (X : XE) : wpB S16 ((b16.drop 0).take 1) (lip i) Q X = atW "options" [.int i.src, .int i.tgt, .int i.pro, .bytes i.data, .int i.ttl, .int i.ident, .int i.flags, .int i.place, .int i.dscp, .int i.ecn, .bytes i.opts] fun t => lenW t fun u => cmpW .Gt u (.int 40) fun c => ifW c (X 56 "options too long" (lip i)) (Q .next (lip i)) := by kernel_rfl
theorem w16_1 (i : Ip) (Q : Fl → Loc → Prop) (X : XE) : wpB S16 ((b16.drop 1).take 1) (lip i) Q X = (ipOk i ∧ ifW (decide (65535 < i.total)) (X 56 "packet too long" (lip i)) (Q .next (lip i))) := by kernel_rfl
theorem w16_3 (i : Ip) (Q : Fl → Loc → Prop) (X : XE) : wpB S16 (b16.drop 3) (lip i) Q X = Q .next (lip i) := by kernel_rfl
noncomputable abbrev ipF (i : Ip) : List Tr := [.int i.src, .int i.tgt, .int i.pro, .bytes i.data, .int i.ttl, .int i.ident, .int i.flags, .int i.place, .int i.dscp, .int i.ecn, .bytes i.opts]
theorem w16_2 (i : Ip) (Q : Fl → Loc → Prop) (X : XE) : wpB S16 ((b16.drop 2).take 1) (lip i) Q X =
  atW "dscp" (ipF i) fun t => cmpW .Gt t (.int 63) fun c => orW c (atW "ecn" (ipF i) fun t => cmpW .Gt t (.int 3) fun c => orW c (atW "flags" (ipF i) fun t => cmpW .Gt t (.int 7) fun c => orW c
    (atW "place" (ipF i) fun t => cmpW .Gt t (.int 65528) fun c => orW c (atW "place" (ipF i) fun t => binW .Mod t (.int 8) fun u => cmpW .NotEq u (.int 0) fun c => orW c
      (ifW false (X 44 "no such field of an IPv4 head" (lip i)) (Q .next (lip i)))
      (fun c => ifW c (X 44 "no such field of an IPv4 head" (lip i)) (Q .next (lip i)))) (fun c => ifW c (X 44 "no such field of an IPv4 head" (lip i)) (Q .next (lip i))))
      (fun c => ifW c (X 44 "no such field of an IPv4 head" (lip i)) (Q .next (lip i)))) (fun c => ifW c (X 44 "no such field of an IPv4 head" (lip i)) (Q .next (lip i)))) (fun c => ifW c (X 44 "no such field of an IPv4 head" (lip i)) (Q .next (lip i))) := by kernel_rfl
theorem or_step {c : Bool} {p a b : Prop} (h1 : c = true → a) (h2 : c = false → p) : orW c p (fun c => ifW c a b) := ⟨h2, fun e => by rw [e]; exact ⟨fun _ => h1 e, fun q => (nomatch q)⟩⟩
theorem or_last {c : Bool} {a b : Prop} (h1 : c = true → a) (h2 : c = false → b) : orW c (ifW false a b) (fun c => ifW c a b) := or_step h1 fun e => ⟨fun q => (nomatch q), fun _ => h2 e⟩
theorem odd_test (i : Ip) {a b : Prop} (h1 : i.odd → a) (h2 : ¬ i.odd → b) : atW "dscp" (ipF i) fun t => cmpW .Gt t (.int 63) fun c => orW c (atW "ecn" (ipF i) fun t => cmpW .Gt t (.int 3) fun c => orW c (atW "flags" (ipF i) fun t => cmpW .Gt t (.int 7) fun c => orW c
    (atW "place" (ipF i) fun t => cmpW .Gt t (.int 65528) fun c => orW c (atW "place" (ipF i) fun t => binW .Mod t (.int 8) fun u => cmpW .NotEq u (.int 0) fun c => orW c
      (ifW false a b) (fun c => ifW c a b)) (fun c => ifW c a b)) (fun c => ifW c a b)) (fun c => ifW c a b)) (fun c => ifW c a b) := by
  refine ⟨_, rfl, or_step (fun e => h1 (.inl (of_decide_eq_true e))) fun e1 => ⟨_, rfl, or_step (fun e => h1 (.inr (.inl (of_decide_eq_true e)))) fun e2 => ⟨_, rfl, or_step (fun e => h1 (.inr (.inr (.inl (of_decide_eq_true e))))) fun e3 =>
    ⟨_, rfl, or_step (fun e => h1 (.inr (.inr (.inr (.inl (of_decide_eq_true e)))))) fun e4 => ⟨_, rfl, by decide, or_last (fun e => h1 (.inr (.inr (.inr (.inr (bne_iff_ne.mp e)))))) fun e5 => h2 ?_⟩⟩⟩⟩⟩
  rintro (q | q | q | q | q)
  · exact of_decide_eq_false e1 q
  · exact of_decide_eq_false e2 q
  · exact of_decide_eq_false e3 q
  · exact of_decide_eq_false e4 q
  · exact q (by simpa using e5)
include B in
theorem c_lens : Contract prg w (g0 w.params) h₀ 4 (.ref 149) sLens :=
  mkC (n := 3) (ex := exM) (l := [("total_of", .fn sTotal)]) (i := 16) (cd := 148) (name := "check_lengths") (names := ["ip"]) (pym := .str "siftwall.ipv4" 302) B (by kernel_rfl) (by kernel_rfl) (fun vs h => by
    obtain ⟨a, rfl⟩ := len1 h
    kernel_rfl) (by kernel_rfl) (exM_ok (Nat.le_refl _)) (.fn (by kernel_rfl) (by decide) (c_total B) .nil) fun ts Q X h => by
    replace h := ipL_of h
    obtain ⟨I, rfl, h⟩ := h
    · obtain ⟨hk, hX1, hX2, hQ⟩ := h
      have h1 := hk.1
      have h2 := hk.2
      refine ⟨rfl, show wpB S16 (b16.drop 0) (lip I) _ _ from ?_⟩
      refine cut1 0 (use (w16_0 I _ _) ⟨_, rfl, by first | exact le_big (by assumption) | (rw [big_eq]; lia), ifW_of (fun e => ?_) fun e => ?_⟩)
      · exact hX1 (by have := of_decide_eq_true e; lia)
      have h40 : I.opts.length ≤ 40 := by have := of_decide_eq_false e; lia
      refine cut1 1 (use (w16_1 I _ _) ⟨hk, ifW_of (fun e => ?_) fun e => ?_⟩)
      · have := of_decide_eq_true e
        unfold Ip.total at this
        rw [pad_len] at this
        lia
      refine cut1 2 (use (w16_2 I _ _) (odd_test I (fun q => hX2 h40 q) fun q => ?_))
      exact use (w16_3 I _ _) (hQ h40 q)
end
end Mine
end
section
open PySem PySem.W PySem.Spec PySem.Calls PyProof.Rows
set_option Elab.async false
namespace Mine
set_option maxRecDepth 100000
set_option linter.unusedVariables false
set_option linter.unusedSectionVars false

/-- expressions over ints alone -/
noncomputable def pE (σ : PySem.Str → Option Int) : Expr → (Int → Prop) → Prop
  | .Constant c _ _, Q => (match c with
      | .int i => Q i
      | _ => False)
  | .Name x _, Q => (match σ x with
      | some i => Q i
      | none => False)
  | .BinOp l op r _, Q => pE σ l fun a => pE σ r fun b => intW op a b fun t => match t with
      | .int i => Q i
      | _ => False
  | _, _ => False
/-- tests over ints alone -/
noncomputable def pT (σ : PySem.Str → Option Int) : Expr → (Bool → Prop) → Prop
  | .Compare l [op] [r] _, Q => pE σ l fun a => pE σ r fun b => icmpW op a b Q
  | _, _ => False
noncomputable def markOk : Expr → Bool
  | .Compare _ ops rs _ => !lastMarks ops rs
  | _ => false

section
variable {prog : Program} {w : World} {A : Around} {E : Value → Shared → Prop} {s : Shared}
theorem int_sound {op : Operator} {a b : Int} {t u : Tok} {Q : Tr → Prop} {QQ : Value → Shared → Prop} (h : intW op a b Q) (k : ∀ i t tk, Q (.int i) → QQ (.int i t) { s with toks := tk }) : wpAny (model prog w) A (binaryOp op (.int a t) (.int b u)) QQ E s := by
  cases op <;> (try exact h.elim)
  · exact PyProof.Rows.add_int (k _ _ _ h)
  · exact PyProof.Rows.sub_int (k _ _ _ h)
  · exact PyProof.Rows.mul_int (k _ _ _ h.2) h.1
  · exact PyProof.Rows.mod_int (by have := h.1; omega) (by rw [fmod_pos h.1]; exact k _ _ _ h.2)
  · exact pow_int h.1 h.2.1 (k _ _ _ h.2.2)
  · exact lshift_int h.1 h.2.1 (k _ _ _ h.2.2)
  · refine rshift_int h.1 ?_
    rw [fdiv_pos (Int.pow_pos (by decide))]
    exact k _ _ _ h.2
  · exact or_int (k _ _ _ h)
  · exact and_int (k _ _ _ h)
  · exact floordiv_int (hp := .inl (PyProof.noPylong_of_log2 h.2.1)) (by have := h.1; omega) (by rw [fdiv_pos h.1]; exact k _ _ _ h.2.2)

/-- names are read here -/
noncomputable def Reads1 (prog : Program) (w : World) (A : Around) (env : Env) (h : Heap) (σ : PySem.Str → Option Int) : Prop :=
  ∀ {x : PySem.Str} {i : Int} {pos : Pos} {s : Shared} {Q E : Value → Shared → Prop}, σ x = some i → s.heap = h → (∀ t, Q (.int i t) s) → wpAny (model prog w) A (eval (.Name x pos) env) Q E s

/-- the soundness of one such expression -/
noncomputable abbrev PS (prog : Program) (w : World) (A : Around) (env : Env) (σ : PySem.Str → Option Int) (e : Expr) : Prop :=
  ∀ {s : Shared} {Q : Int → Prop} {QQ E : Value → Shared → Prop}, Reads1 prog w A env s.heap σ → pE σ e Q → (∀ i t tk, Q i → QQ (.int i t) { s with toks := tk }) → wpAny (model prog w) A (eval e env) QQ E s
theorem no_PS {env : Env} {σ : PySem.Str → Option Int} {e : Expr} (h : ∀ Q, pE σ e Q → False) : PS prog w A env σ e := fun _ k => (h _ k).elim
theorem pE_sound {env : Env} {σ : PySem.Str → Option Int} : ∀ (e : Expr), PS prog w A env σ e
  | .Constant c k p => fun rd h q => by
    cases c <;> first | exact h.elim | skip
    exact wpAny_Constant_int (q _ _ _ h)
  | .Name x p => fun rd h q => by
    rename_i s Q QQ E
    replace h : (match σ x with
      | some i => Q i
      | none => False) := h
    cases hx : σ x with
    | none => rw [hx] at h; exact h.elim
    | some i => rw [hx] at h; exact rd hx rfl fun t => q i t s.toks h
  | .BinOp l op r p => fun rd h q => by
    rename_i s Q QQ E
    refine wpAny_BinOp (pE_sound l (Q := fun a => pE σ r fun b => intW op a b fun t => match t with
      | .int i => Q i
      | _ => False) rd h fun a ta tk1 h1 => ?_)
    refine pE_sound r (s := { s with toks := tk1 }) rd h1 fun b tb tk2 h2 => ?_
    exact int_sound (s := { s with toks := tk2 }) h2 fun i t tk h3 => q i t tk h3
  | .UnaryOp .. => no_PS (by exact fun _ h => h)
  | .IfExp .. => no_PS (by exact fun _ h => h)
  | .Call .. => no_PS (by exact fun _ h => h)
  | .Subscript .. => no_PS (by exact fun _ h => h)
  | .Attribute .. => no_PS (by exact fun _ h => h)
  | .Tuple .. => no_PS (by exact fun _ h => h)
  | .List .. => no_PS (by exact fun _ h => h)
  | .NamedExpr .. => no_PS (by exact fun _ h => h)
  | .Lambda .. => no_PS (by exact fun _ h => h)
  | .Dict .. => no_PS (by exact fun _ h => h)
  | .Set .. => no_PS (by exact fun _ h => h)
  | .ListComp .. => no_PS (by exact fun _ h => h)
  | .SetComp .. => no_PS (by exact fun _ h => h)
  | .DictComp .. => no_PS (by exact fun _ h => h)
  | .GeneratorExp .. => no_PS (by exact fun _ h => h)
  | .Await .. => no_PS (by exact fun _ h => h)
  | .Yield .. => no_PS (by exact fun _ h => h)
  | .YieldFrom .. => no_PS (by exact fun _ h => h)
  | .FormattedValue .. => no_PS (by exact fun _ h => h)
  | .JoinedStr .. => no_PS (by exact fun _ h => h)
  | .Starred .. => no_PS (by exact fun _ h => h)
  | .Slice .. => no_PS (by exact fun _ h => h)
  | .Compare .. => no_PS (by exact fun _ h => h)
  | .BoolOp .. => no_PS (by exact fun _ h => h)

theorem icmp_sound {op : CmpOp} {a b : Int} {t u : Tok} {Q : Bool → Prop} {QQ : Value → Shared → Prop} (hu : A.units + 8 < cLine) (h : icmpW op a b Q) (k : ∀ c, Q c → QQ (.bool c) s) : wpAny (model prog w) A (compareOp op (.int a t) (.int b u)) QQ E s :=
  cmp_sound (G := ⟨w.params, 0, [], [], []⟩) (P := fun _ _ => False) (a := .int a) (b := .int b) h (fun _ _ p => p.elim) ⟨t, rfl⟩ ⟨u, rfl⟩ hu k

theorem pT_sound {env : Env} {σ : PySem.Str → Option Int} (e : Expr) {whole : Sem Value} {s : Shared} {Q : Bool → Prop} {QQ : Bool → Shared → Prop} {E : Value → Shared → Prop} (hu : A.units + 8 < cLine) (hm : markOk e = true) (rd : Reads1 prog w A env s.heap σ) (h : pT σ e Q) (q : ∀ c tk, Q c → QQ c { s with toks := tk }) :
    wpAny (model prog w) A (isTrue e env whole) QQ E s := by
  cases e <;> first | exact h.elim | skip
  rename_i l ops rs p
  match ops, rs, h, hm with
  | [op], [r], h, hm =>
    replace hm := not1 hm
    show wpAny _ _ (do testChain p (← eval l _) [op] (markedEach [op] [r] (evalEach [r] _))) _ _ _
    rw [markedEach_of_false _ _ _ hm]
    refine wpAny_bind (pE_sound l rd h fun a ta tk1 h1 => ?_)
    refine test_last (pE_sound r (s := { s with toks := tk1 }) rd h1 fun b tb tk2 h2 => ?_)
    exact icmp_sound (s := { s with toks := tk2 }) hu h2 fun c hc => wpAny_truthy_bool (q c tk2 hc)
end
end Mine
end
section
open PySem PySem.W PySem.Spec PySem.Calls PyProof.Rows
set_option Elab.async false
namespace Mine
set_option tactic.hygienic false
set_option maxRecDepth 100000
set_option linter.unusedVariables false
set_option linter.unusedSectionVars false

noncomputable def sgO (n k : Int) (j : Option Int) (x : PySem.Str) : Option Int := if x == "number" then some n else if x == "size" then some k else if x == "place" then j else none
noncomputable def oE1 : Expr := .Compare (.Name "number" ⟨19, 7, 19, 13⟩) [.Lt] [.Constant (.int 0) 0 ⟨19, 16, 19, 17⟩] ⟨19, 7, 19, 17⟩
noncomputable def oE2 : Expr := .Compare (.BinOp (.Name "number" ⟨19, 21, 19, 27⟩) .RShift (.BinOp (.Constant (.int 8) 0 ⟨19, 31, 19, 32⟩) .Mult (.Name "size" ⟨19, 35, 19, 39⟩) ⟨19, 31, 19, 39⟩) ⟨19, 21, 19, 39⟩) [.NotEq] [.Constant (.int 0) 0 ⟨19, 43, 19, 44⟩] ⟨19, 21, 19, 44⟩
noncomputable def oElt : Expr := .BinOp (.BinOp (.Name "number" ⟨21, 18, 21, 24⟩) .RShift (.BinOp (.Constant (.int 8) 0 ⟨21, 28, 21, 29⟩) .Mult (.BinOp (.BinOp (.Name "size" ⟨21, 33, 21, 37⟩) .Sub (.Constant (.int 1) 0 ⟨21, 40, 21, 41⟩) ⟨21, 33, 21, 41⟩) .Sub (.Name "place" ⟨21, 44, 21, 49⟩) ⟨21, 33, 21, 49⟩) ⟨21, 28, 21, 50⟩) ⟨21, 18, 21, 50⟩) .BitAnd (.Constant (.int 255) 0 ⟨21, 53, 21, 56⟩) ⟨21, 18, 21, 56⟩
noncomputable def oSc : Scope := ⟨.function, [(".0", .local), ("place", .local), ("number", .free), ("size", .free)], false, false, []⟩
noncomputable def oRaise : Stmt := .Raise (some (.Call (.Name "Misused" ⟨20, 14, 20, 21⟩) [.Constant (.str "the number does not fit its octets") 0 ⟨20, 22, 20, 58⟩] [] ⟨20, 14, 20, 59⟩)) none ⟨20, 8, 20, 59⟩
noncomputable def oGen : Comprehension := ⟨.Name "place" ⟨21, 61, 21, 66⟩, .Call (.Name "range" ⟨21, 70, 21, 75⟩) [.Name "size" ⟨21, 76, 21, 80⟩] [] ⟨21, 70, 21, 81⟩, [], 0⟩
noncomputable def oRet : Stmt := .Return (some (.Call (.Name "bytes" ⟨21, 11, 21, 16⟩) [.ListComp oElt [oGen] oSc ⟨21, 17, 21, 82⟩] [] ⟨21, 11, 21, 83⟩)) ⟨21, 4, 21, 83⟩
noncomputable def oBody : List Stmt := [.If (.BoolOp .Or [oE1, oE2] ⟨19, 7, 19, 44⟩) [oRaise] [] ⟨19, 4, 20, 59⟩, oRet]
theorem oct_body : (fnAt 6).2.1 = oBody := by kernel_rfl
theorem oT1 (n k : Int) (Q : Bool → Prop) : pT (sgO n k none) oE1 Q = Q (decide (n < 0)) := by kernel_rfl
theorem oT2 (n k : Int) (Q : Bool → Prop) : pT (sgO n k none) oE2 Q = (IntMulOk 8 k ∧ 0 ≤ 8 * k ∧ Q (n / 2 ^ (8 * k).toNat != 0)) := by kernel_rfl
theorem oTe (n k j : Int) (Q : Int → Prop) : pE (sgO n k (some j)) oElt Q = (IntMulOk 8 (k - 1 - j) ∧ 0 ≤ 8 * (k - 1 - j) ∧ Q (Builtin.bitAnd (n / 2 ^ (8 * (k - 1 - j)).toNat) 255)) := by kernel_rfl

section
variable {prog : Program} {w : World} {A : Around} {h₀ : Heap} {L : Addr} {m : PySem.Str → Option Value} {env : Env} {elt : Expr} {x : PySem.Str} {scope : Scope} {cl : List (PySem.Str × Addr)} {s : Shared} {S : Led → Prop} {Fin : List Value → Led → Prop} {news : Led}
/-- a comprehension over a range whose elements are ints -/
theorem comp_ints {n : Nat} (g : Nat → Int) (hS : S news)
    (turn : ∀ i t I oI C oC D m₂ ys h tk (E' : Value → Shared → Prop) (QQ : Value → Shared → Prop), i < n → LCg.NsObj oC m₂ → m₂ x = some (.int (i : Int) t) → Fr h₀ L h m → News h₀ L h ((I, oI) :: (C, oC) :: (D, LCg.lst ys) :: news) →
      (∀ t' tk', QQ (.int (g i) t') { s with heap := h, toks := tk' }) → wpAny (model prog w) A (eval elt (compEnvC scope cl C env)) QQ E' { s with heap := h, toks := tk })
    (fin : ∀ ys, IntsAre ys ((List.range n).map g) → Fin ys news) : LCg.CompRest prog w A h₀ L m env elt x scope cl s S (fun i v => ∃ t, v = .int (0 + (i : Int)) t) Fin n 0 [] news := by
  have key : ∀ (j i : Nat) (ys : List Value), i + j = n → IntsAre ys ((List.range i).map g) → LCg.CompRest prog w A h₀ L m env elt x scope cl s S (fun i v => ∃ t, v = .int (0 + (i : Int)) t) Fin j i ys news := by
    intro j
    induction j with
    | zero =>
      intro i ys hi hy
      have e : i = n := by lia
      subst e
      exact LCg.CompRest.zero (fin ys hy)
    | succ j ih =>
      intro i ys hi hy
      refine LCg.CompRest.succ ?_
      intro v I oI C oC D m₂ h tk E' hv hC hx F N off ne
      obtain ⟨t, rfl⟩ := hv
      rw [show (0 : Int) + (i : Int) = i by lia] at hx
      refine turn i t I oI C oC D m₂ ys h tk E' _ (by lia) hC hx F N fun t' tk' => ?_
      refine ⟨h, tk', news, rfl, F, N, off, hS, ?_⟩
      refine ih (i + 1) _ (by lia) ?_
      rw [List.range_succ, List.map_append]
      have app : ∀ {vs : List Value} {ns : List Int}, IntsAre vs ns → IntsAre (vs ++ [.int (g i) t']) (ns ++ [g i]) := by
        intro vs ns hh
        induction hh with
        | nil => exact .cons _ _ .nil
        | cons z u r ih' => exact .cons z u ih'
      exact app hy
  exact key n 0 [] (by lia) .nil
end
theorem be_range (n : Int) (k : Nat) : be n k = (List.range k).map fun (j : Nat) => n / 256 ^ (k - 1 - j) % 256 := by
  induction k generalizing n with
  | zero => rfl
  | succ k ih =>
    rw [be, ih, List.range_succ, List.map_append]
    congr 1
    · refine List.map_congr_left fun j hj => ?_
      have hj' := List.mem_range.mp hj
      rw [Int.ediv_ediv_of_nonneg (by decide), show k + 1 - 1 - j = (k - 1 - j) + 1 by lia, Int.pow_succ, Int.mul_comm]
    · show [n % 256] = [n / 256 ^ (k + 1 - 1 - k) % 256]
      rw [show k + 1 - 1 - k = 0 by lia, Int.pow_zero, Int.ediv_one]
theorem and_255 {x : Int} (h : 0 ≤ x) : Builtin.bitAnd x 255 = x % 256 := by
  have := and_mask 8 h
  rwa [show ((2 : Int) ^ 8 - 1) = 255 from rfl, show ((2 : Int) ^ 8) = 256 from rfl] at this
theorem pow8 (k : Nat) : (2 : Int) ^ (8 * k) = 256 ^ k := by rw [Int.pow_mul]; rfl
end Mine
end
section
open PySem PySem.W PySem.Spec PySem.Calls PyProof.Rows
set_option Elab.async false
namespace Mine
set_option tactic.hygienic false
set_option maxRecDepth 100000
set_option linter.unusedVariables false
set_option linter.unusedSectionVars false

/-- an env of a def's frame with cells -/
structure CEnv (env : Env) (L : Addr) (sc : Scope) (cl : List (PySem.Str × Addr)) : Prop where
  sc : env.scope = sc
  fr : env.frame = some L
  loc : env.locals = L
  glob : env.globals = mainGlobals
  blt : env.builtins = builtinsNs
  cl : env.cells = cl

section
variable {prog : Program} {w : World} {A : Around} {E : Value → Shared → Prop} {s : Shared} {K : Frag} {h₀ : Heap} {env : Env} {L : Addr} {sc : Scope} {cl : List (PySem.Str × Addr)}
theorem stack_env {G : Wo} {L₀ : Addr} {l : List Env} {fr : Led} (S : Stack A G L₀ l) (hf : env.frame = some L) (hk : env.scope.kind = .function) : Stack (A.deeper env) (below G L₀ fr) L (env :: l) := by
  obtain ⟨e', r, e1, e2, e3⟩ := S.top
  refine ⟨?_, ⟨_, l, rfl, hf, ?_⟩, fun env' he => ?_⟩
  · show A.frames.map _ = _
    rw [S.is]; rfl
  · rw [e1]
    show framesOf (e' :: r) = L₀ :: G.outs
    unfold framesOf at e3 ⊢
    rw [List.filterMap_cons, e2, e3]
  · rcases List.mem_cons.mp he with rfl | he
    · exact ⟨by rw [hk]; decide, _, hf⟩
    · exact S.kinds env' he

theorem glob_env (B : Base prog w K h₀) {x : PySem.Str} {v : Value} {pos : Pos} {Q : Value → Shared → Prop} (hv : gvK K x = some v) (hk : env.scope.kind = .function) (hx : env.kindOf x = some .globalImplicit) (hd : (x == ("__debug__" : PySem.Str)) = false) (hg : env.globals = mainGlobals) (hb : env.builtins = builtinsNs) (keep : ∀ b o, h₀.get? b = some o → s.heap.get? b = some o) (h : Q v s) :
    wpAny (model prog w) A (eval (.Name x pos) env) Q E s := by
  obtain ⟨p, loose, mg, mb, T⟩ := B.T
  unfold gvK at hv
  cases hn : nsIn K mainGlobals x with
  | none => rw [hn] at hv; cases hv
  | some r =>
    rw [hn] at hv
    cases r with
    | some u =>
      cases hv
      exact Name_function_global hk hx (loadGlobal_global (env := env) (by rw [hg]; exact T.g.keeps keep) (mg_of B.X T.g hn) h) hd
    | none =>
      dsimp only at hv
      split at hv
      · cases hv
      · rename_i hx'
        exact Name_function_global hk hx (loadGlobal_builtin (env := env) (by rw [hg]; exact T.g.keeps keep) (mg_none_of B.X T.g hn) (by rw [hb]; exact T.b.keeps keep) ((T.builtins x (fun e => hx' (by rw [e]; rfl))).trans hv) h) hd

/-- a call of a built-in type or function with plain arguments -/
theorem call_plain {f : PySem.Str} {v : Value} {p p' : Pos} {e : Expr} {Q : Value → Shared → Prop} (hv : ∀ a, v ≠ .ref a) (hn : ∀ {Q' E' : Value → Shared → Prop}, Q' v s → wpAny (model prog w) A (eval (.Name f p) env) Q' E' s)
    (hst : starEach [e] env = [(false, eval e env)]) (h : wpAny (model prog w) A (eval e env) (fun u s' => wpAny (model prog w) A (call v [u]) Q E s') E s) : wpAny (model prog w) A (eval (.Call (.Name f p) [e] [] p') env) Q E s := by
  rw [arm_eval_Call_Name']
  refine wpAny_bind (hn ?_)
  refine callWith_of (P := fun _ => True) (by rw [hst]; rfl) (fun h _ => ?_) ?_
  · cases v with
    | ref a => exact absurd rfl (hv a)
    | _ => exact ⟨.machine, .inr (.inl rfl), .now⟩
  · rw [hst]
    exact Calls.evalArgs_plain (Calls.spliced_cons (wpAny_mono h (fun u s' hq => Calls.spliced_nil ⟨trivial, hq⟩) fun _ _ z => z))

theorem range_n {k : Int} (h0 : 0 ≤ k) : Builtin.Range.rangeSize 0 k 1 = ((k.toNat : Nat) : Int) := by
  have h1 := rangeSize_pos (a := 0) (b := k) (c := 1) (by decide)
  have e : (k - 0 + 1 - 1) / 1 = k := by rw [Int.ediv_one]; lia
  rw [e] at h1
  have h2 : 0 ≤ Builtin.Range.rangeSize 0 k 1 := by
    unfold Builtin.Range.rangeSize
    rw [if_pos (by decide)]
    split
    · have : 0 ≤ (k - 0 - 1) / 1 := Int.ediv_nonneg (by lia) (by decide)
      lia
    · decide
  lia

theorem comp_range {m : PySem.Str → Option Value} {elt e : Expr} {x : PySem.Str} {px pr pc pos : Pos} {csc : Scope} {ccl : List (PySem.Str × Addr)} {news : Led} {k : Int} {g : Nat → Int} {Q : Value → Shared → Prop} (hh : A.handled = none) (F : Fr h₀ L s.heap m) (N : News h₀ L s.heap news)
    (hclos : closureFor csc env = pure ccl) (hcell : ∀ y ∈ csc.names, y.2 ≠ .cell) (hkind : csc.kind = .function) (hnames : ∀ y ∈ csc.names, y.2 = .local → csc.names.lookup y.1 = some .local) (hx : csc.names.lookup x = some .local)
    (hr : ∀ {Q' E' : Value → Shared → Prop}, Q' (.type "range") s → wpAny (model prog w) A (eval (.Name "range" pr) env) Q' E' s) (hst : starEach [e] env = [(false, eval e env)])
    (he : ∀ {Q' E' : Value → Shared → Prop}, (∀ t, Q' (.int k t) s) → wpAny (model prog w) A (eval e env) Q' E' s) (h0 : 0 ≤ k) (h1 : k ≤ 1000)
    (turn : ∀ i t I oI C oC D m₂ ys h tk (E' : Value → Shared → Prop) (QQ : Value → Shared → Prop), i < k.toNat → LCg.NsObj oC m₂ → m₂ x = some (.int (i : Int) t) → Fr h₀ L h m → News h₀ L h ((I, oI) :: (C, oC) :: (D, LCg.lst ys) :: news) →
      (∀ t' tk', QQ (.int (g i) t') { s with heap := h, toks := tk' }) → wpAny (model prog w) A (eval elt (compEnvC csc ccl C env)) QQ E' { s with heap := h, toks := tk })
    (h : ∀ D h' tk ys, Fr h₀ L h' m → News h₀ L h' ((D, LCg.lst ys) :: news) → LCg.Off1 D news → IntsAre ys ((List.range k.toNat).map g) → Q (.ref D) { s with heap := h', toks := tk }) :
    wpAny (model prog w) A (eval (.ListComp elt [⟨.Name x px, .Call (.Name "range" pr) [e] [] pc, [], 0⟩] csc pos) env) Q E s := by
  refine LCg.ListComp_U (cl := ccl) F hclos hcell hkind hnames hx (call_plain (v := .type "range") (fun a q => nomatch q) hr hst (he fun t => ?_)) (fun _ => rfl)
  refine call_range_1 ?_
  have up : ∀ b o, s.heap.get? b = some o → (s.heap.push { cls := .type "range", data := .fields #[.int 0 s.toks, .int k t, .int 1 (s.toks + 1)] }).get? b = some o := fun b o q => Heap.get?_push_of_some _ q
  refine LCg.CompSrc.range (n := k.toNat) (news := news) hh (F.keeps up) (N.grown up) (IsRange.new ..) (range_small (by decide) (by lia) (by lia) (by lia) (by lia) (by lia)).1 (range_n h0) (by rw [sizeLine_eq]; lia) fun g' => ?_
  exact comp_ints g trivial (fun i t I oI C oC D m₂ ys h tk E' QQ hi hC hm F' N' q => turn i t I oI C oC D m₂ ys h tk E' QQ hi hC hm F' N' q) fun ys hy D h' tk F' N' of => h D h' tk ys F' N' of hy
end

/-- what a comprehension of two free names closes over; its names -/
theorem clos_two {csc : Scope} {env : Env} {z k x y : PySem.Str} {a b : Addr} (hcn : csc.names = [(z, .local), (k, .local), (x, .free), (y, .free)]) (hx : env.cells.lookup x = some a) (hy : env.cells.lookup y = some b) : closureFor csc env = pure [(y, b), (x, a)] := by
  unfold closureFor
  rw [hcn]
  have x1 : cellOf env x = pure a := by unfold cellOf; rw [hx]
  have x2 : cellOf env y = pure b := by unfold cellOf; rw [hy]
  simp only [List.forIn_cons, List.forIn_nil, x1, x2]
  rfl
theorem comp_kinds {csc : Scope} {env : Env} {cl : List (PySem.Str × Addr)} {C : Addr} {z k x y : PySem.Str} (hcn : csc.names = [(z, .local), (k, .local), (x, .free), (y, .free)]) (hks : env.scope.kind = .function) (a1 : env.kindOf x = some .cell) (a2 : env.kindOf y = some .cell) (v : PySem.Str) :
    (compEnvC csc cl C env).kindOf v = [(z, NameKind.local), (k, NameKind.local), (x, NameKind.cell), (y, NameKind.cell)].lookup v := by
  show (csc.names.map fun (z : PySem.Str × NameKind) => if (z.2 == .free && env.scope.kind == .function && env.kindOf z.1 == some .cell) then (z.1, NameKind.cell) else (z.1, z.2)).lookup v = _
  rw [hcn, hks]
  simp only [List.map_cons, List.map_nil, a1, a2]
  rfl
/-- reading ints by their names -/
theorem Reads1.none {prog : Program} {w : World} {A : Around} {env : Env} {h : Heap} : Reads1 prog w A env h (fun _ => none) := fun hy => nomatch hy
theorem Reads1.cons {prog : Program} {w : World} {A : Around} {env : Env} {h : Heap} {sg : PySem.Str → Option Int} {x : PySem.Str} {i : Int} (k : ∀ {pos : Pos} {s : Shared} {Q E : Value → Shared → Prop}, s.heap = h → (∀ t, Q (.int i t) s) → wpAny (model prog w) A (eval (.Name x pos) env) Q E s) (r : Reads1 prog w A env h sg) :
    Reads1 prog w A env h (fun y => if y == x then some i else sg y) := fun {y j pos s Q E} hy hh hq => by
  dsimp only at hy
  cases hx : y == x with
  | true =>
    rw [hx, if_pos rfl] at hy
    cases hy
    rw [beq_iff_eq.mp hx]
    exact k hh hq
  | false =>
    rw [hx, if_neg Bool.false_ne_true] at hy
    exact r hy hh hq
theorem Reads1.skip {prog : Program} {w : World} {A : Around} {env : Env} {h : Heap} {sg : PySem.Str → Option Int} {x : PySem.Str} (r : Reads1 prog w A env h sg) :
    Reads1 prog w A env h (fun y => if y == x then Option.none else sg y) := fun {y j pos s Q E} hy hh hq => by
  dsimp only at hy
  cases hx : y == x with
  | true => rw [hx, if_pos rfl] at hy; cases hy
  | false =>
    rw [hx, if_neg Bool.false_ne_true] at hy
    exact r hy hh hq
end Mine
end
section
open PySem PySem.W PySem.Spec PySem.Calls PyProof.Rows
set_option Elab.async false
namespace Mine
set_option tactic.hygienic false
set_option maxRecDepth 100000
set_option linter.unusedVariables false
set_option linter.unusedSectionVars false

noncomputable def nNum : PySem.Str := "number"
noncomputable def nSize : PySem.Str := "size"
noncomputable abbrev fO : FuncData := fnF "octets_of" "octets_of" (fnAt 6) .none (.str "siftwall.octets" 251) 69

section
variable {w : World} {h₀ : Heap} (B : Base prg w (kf w.params) h₀)
theorem oct_env (L : Addr) : CEnv (callEnvC fO L 70) L (fnAt 6).2.2 [(nSize, L + 1 + 1), (nNum, L + 1)] := ⟨by kernel_rfl, by kernel_rfl, by kernel_rfl, by kernel_rfl, by kernel_rfl, by kernel_rfl⟩
theorem oct_kinds : (fnAt 6).2.2.kind = .function ∧ (fnAt 6).2.2.names.lookup nNum = some .cell ∧ (fnAt 6).2.2.names.lookup nSize = some .cell ∧ (fnAt 6).2.2.names.lookup ("Misused" : PySem.Str) = some NameKind.globalImplicit ∧ (fnAt 6).2.2.names.lookup ("bytes" : PySem.Str) = some NameKind.globalImplicit ∧ (fnAt 6).2.2.names.lookup ("range" : PySem.Str) = some NameKind.globalImplicit := ⟨by kernel_rfl, by kernel_rfl, by kernel_rfl, by kernel_rfl, by kernel_rfl, by kernel_rfl⟩

set_option maxHeartbeats 1000000 in
include B in
theorem c_octets : Contract prg w (g0 w.params) h₀ 4 (.ref 70) sOctets := by
  intro A G' l L m own fr aux W ρ s ts vs Q X QQ EE k hr S I d h q x
  replace h := twoI_of h
  obtain ⟨n, kk, rfl, h⟩ := h
  · obtain ⟨v1, r1, rfl, ⟨t1, rfl⟩, v2, r2, rfl, ⟨t2, rfl⟩, rfl⟩ := d
    obtain ⟨hk0, hk1, hX, hQ⟩ := h
    obtain ⟨oL, hoL, hnf⟩ := ns_obj I
    obtain ⟨p, loose, mg, mb, T⟩ := B.T
    have ho : (kf w.params).lookup 70 = some (fnO "octets_of" "octets_of" (fnAt 6) .none (.str "siftwall.octets" 251) 69) := by kernel_rfl
    obtain ⟨hkd, hkN, hkS, hkM, hkB, hkR⟩ := oct_kinds
    have hd := hr.depth
    refine wpAny_call (codeAny_call_cells (fd := fO) (body := (fnAt 6).2.1) (binds := [(nNum, .int n t1), (nSize, .int kk t2)]) (by show A.depth < 1000; lia) (I.F.keep _ _ (B.X _ _ ho)) rfl (T.nolimit.keeps I.F.keep) (codeRec_of (B.X.keeps I.F.keep) (by kernel_rfl)) rfl (by kernel_rfl) rfl (fun y hy => ?_) (fun s1 x1 => ?_) (by kernel_rfl) (by kernel_rfl) hkd)
    · rcases List.mem_cons.mp hy with rfl | hy
      · exact .inr ⟨hkN, by kernel_rfl⟩
      · rw [List.mem_singleton.mp hy]
        exact .inr ⟨hkS, by kernel_rfl⟩
    have CE := oct_env s.heap.objs.size
    have bC1 : bindC (callEnvC fO s.heap.objs.size 70).kindOf [(nNum, .int n t1), (nSize, .int kk t2)] (fun _ => none) nNum = some (.int n t1) := by kernel_rfl
    have bC2 : bindC (callEnvC fO s.heap.objs.size 70).kindOf [(nNum, .int n t1), (nSize, .int kk t2)] (fun _ => none) nSize = some (.int kk t2) := by kernel_rfl
    generalize hm1 : bindL (callEnvC fO s.heap.objs.size 70).kindOf [(nNum, .int n t1), (nSize, .int kk t2)] (fun _ => none) = mm at x1
    generalize bindC (callEnvC fO s.heap.objs.size 70).kindOf [(nNum, .int n t1), (nSize, .int kk t2)] (fun _ => none) = cm at x1 bC1 bC2
    generalize callEnvC fO s.heap.objs.size 70 = env at x1 CE
    obtain ⟨h1, tk1, rfl⟩ := x1.toInCall.same
    have n1 := x1.toInCall.ns
    have kp1 := x1.toInCall.keep
    have ic1 := x1.cell nNum (s.heap.objs.size + 1) (by rw [CE.cl]; rfl)
    have ic2 := x1.cell nSize (s.heap.objs.size + 1 + 1) (by rw [CE.cl]; rfl)
    rw [bC1] at ic1
    rw [bC2] at ic2
    rw [CE.loc] at n1
    dsimp only at n1 kp1 ic1 ic2
    have hks : env.scope.kind = .function := by rw [CE.sc]; exact hkd
    have kN : env.kindOf nNum = some .cell := by show env.scope.names.lookup nNum = _; rw [CE.sc]; exact hkN
    have kS : env.kindOf nSize = some .cell := by show env.scope.names.lookup nSize = _; rw [CE.sc]; exact hkS
    have kM : env.kindOf "Misused" = some .globalImplicit := by show env.scope.names.lookup _ = _; rw [CE.sc]; exact hkM
    have kB : env.kindOf "bytes" = some .globalImplicit := by show env.scope.names.lookup _ = _; rw [CE.sc]; exact hkB
    have kR : env.kindOf "range" = some .globalImplicit := by show env.scope.names.lookup _ = _; rw [CE.sc]; exact hkR
    have cN : env.cells.lookup nNum = some (s.heap.objs.size + 1) := by rw [CE.cl]; rfl
    have cS : env.cells.lookup nSize = some (s.heap.objs.size + 1 + 1) := by rw [CE.cl]; rfl
    obtain ⟨o1, g1, d1⟩ := ic1
    obtain ⟨o2, g2, d2⟩ := ic2
    have J := enter_inv (m1 := mm) (own1 := []) (ρ1 := []) I hoL hnf n1 kp1 (fun p hp => nomatch hp) List.nodup_nil own (fun p hp => hp) (fun p hp => nomatch hp) List.nodup_nil .nil
    have hr1 : Room (A.deeper env) 3 := hr.deeper env
    have hS1 : Stack (A.deeper env) (below G' L fr) s.heap.objs.size (env :: l) := stack_env S CE.fr hks
    have hu : (A.deeper env).units + 8 < cLine := by have := hr1.units; show _ < 9900; lia
    have rdN : ∀ {s' : Shared} {pos : Pos} {Q' E' : Value → Shared → Prop}, s'.heap.get? (s.heap.objs.size + 1) = some o1 → Q' (.int n t1) s' → wpAny (model prg w) (A.deeper env) (eval (.Name nNum pos) env) Q' E' s' := fun g hq => wpAny_Name (wpAny_loadName_cell hks kN cN ⟨o1, g, d1⟩ hq) (by decide)
    have rdS : ∀ {s' : Shared} {pos : Pos} {Q' E' : Value → Shared → Prop}, s'.heap.get? (s.heap.objs.size + 1 + 1) = some o2 → Q' (.int kk t2) s' → wpAny (model prg w) (A.deeper env) (eval (.Name nSize pos) env) Q' E' s' := fun g hq => wpAny_Name (wpAny_loadName_cell hks kS cS ⟨o2, g, d2⟩ hq) (by decide)
    have rd : Reads1 prg w (A.deeper env) env h1 (sgO n kk none) := 
      @Reads1.cons _ _ _ _ _ _ _ _ (fun hh hq => rdN (by rw [hh]; exact g1) (hq t1)) (@Reads1.cons _ _ _ _ _ _ _ _ (fun hh hq => rdS (by rw [hh]; exact g2) (hq t2)) (@Reads1.skip _ _ _ _ _ _ _ (@Reads1.none _ _ _ _ _)))
    rw [oct_body]
    suffices key : ∀ (QA : Flow → Shared → Prop) (EA : Value → Shared → Prop), (∀ v s', QQ v s' → QA (.ret v) s') → (∀ e s', wpAny (model prg w) (A.deeper env) (leaving env e) (fun _ s'' => wants QQ EE (.error e) s'') (fun e' s'' => wants QQ EE (.error e') s'') s' → EA e s') →
      wpAny (model prg w) (A.deeper env) (execs oBody env) QA EA { s with heap := h1, toks := tk1 } from key _ _ (fun _ _ h => h) fun _ _ h => h
    intro QA EA hQA hEA
    have toX : ∀ (e : Addr) (h' : Heap) (tk' : Nat), EN h₀ (env :: l) s.heap.objs.size (below G' L fr).hold mm [] fr (own ++ (L, oL) :: aux) (own.map (·.1) ++ L :: W) [] h' e 44 "the number does not fit its octets" → (n < 0 ∨ 256 ^ kk.toNat ≤ n) →
        EA (.ref e) { s with heap := h', toks := tk' } := fun e h' tk' he hn => hEA _ _ <|
      leave_exc (s := { s with heap := h', toks := tk' }) (EE := fun e s' => wants QQ EE (.error e) s') (led := own ++ fr ++ aux) (L := L) (oL := oL) (m := m) hS1.is CE.fr he.1 (fun p hp => by
        have hold := he.2
        simp only [List.mem_append, List.mem_cons] at hp ⊢
        rcases hp with (hp | hp) | hp
        · exact .inr (.inl hp)
        · exact .inl (.inr (hold p hp))
        · exact .inr (.inr (.inr hp))) (fun p hp e' => absurd (I.look_lt p hp) (e' ▸ Nat.lt_irrefl _)) (by simp) hoL I.F.ns fun h2 X2 => x e h2 tk' 44 _ ⟨X2, I.hold⟩ (hX hn)
    have fitN : (256 : Int) ^ kk.toNat = 2 ^ (8 * kk).toNat := by rw [← pow8]; congr 1; lia
    have raised : ∀ tk Q1, (n < 0 ∨ 256 ^ kk.toNat ≤ n) → wpAny (model prg w) (A.deeper env) (execs [oRaise] env) Q1 EA { s with heap := h1, toks := tk } := fun tk Q1 hn =>
      wpAny_execs_cons (raise_env (s := { s with heap := h1, toks := tk }) B (x44 _) (k_init _) (by kernel_rfl) hr1 hS1 (fun hq => glob_env B (by kernel_rfl) hks kM (by decide) CE.glob CE.blt J.F.keep hq) J fun e h' tk' he => toX e h' tk' he hn)
    have hP : (0 : Int) < 256 ^ kk.toNat := pow256_pos _
    have aN : s.heap.objs.size + 1 ≠ s.heap.objs.size := Nat.ne_of_gt (Nat.lt_succ_self _)
    have aS : s.heap.objs.size + 1 + 1 ≠ s.heap.objs.size := Nat.ne_of_gt (Nat.lt_succ_of_lt (Nat.lt_succ_self _))
    have N1 : News h₀ s.heap.objs.size h1 ((s.heap.objs.size + 1, o1) :: (s.heap.objs.size + 1 + 1, o2) :: ([] ++ fr ++ (own ++ (L, oL) :: aux))) := fun p hp => by
      rcases List.mem_cons.mp hp with rfl | hp
      · exact ⟨g1, aN, Heap.get?_none_of_le (Nat.le_succ_of_le J.F.above)⟩
      · rcases List.mem_cons.mp hp with rfl | hp
        · exact ⟨g2, aS, Heap.get?_none_of_le (Nat.le_succ_of_le (Nat.le_succ_of_le J.F.above))⟩
        · exact J.N p hp
    have hclos : closureFor oSc env = pure [(nSize, s.heap.objs.size + 1 + 1), (nNum, s.heap.objs.size + 1)] := clos_two rfl cN cS
    have finish : ∀ tk, 0 ≤ n → n < 256 ^ kk.toNat → wpAny (model prg w) (A.deeper env) (execs [oRet] env) QA EA { s with heap := h1, toks := tk } := fun tk hn0 hn1 => by
      refine wpAny_execs_cons (wpAny_Return_some (call_plain (s := { s with heap := h1, toks := tk }) (v := .type "bytes") (fun a q => nomatch q) (fun hq => glob_env B (by kernel_rfl) hks kB (by decide) CE.glob CE.blt J.F.keep hq) rfl ?_))
      refine comp_range (s := { s with heap := h1, toks := tk }) (ccl := [(nSize, s.heap.objs.size + 1 + 1), (nNum, s.heap.objs.size + 1)]) (k := kk) (g := fun i => n / 256 ^ (kk.toNat - 1 - i) % 256) hr1.hh J.F N1 hclos (by decide +kernel) rfl (by decide +kernel) rfl (fun hq => glob_env B (by kernel_rfl) hks kR (by decide) CE.glob CE.blt J.F.keep hq) rfl (fun hq => rdS g2 (hq t2)) hk0 (by lia) (fun i t Ia oI C oC D m₂ ys hh tk' E' QQ' hi hC hmx F' N' hq => ?_) fun D h' tk' ys F' N' _ hy => ?_
      · have kk3 := comp_kinds (csc := oSc) (cl := [(nSize, s.heap.objs.size + 1 + 1), (nNum, s.heap.objs.size + 1)]) (C := C) rfl hks kN kS
        have kcN := (kk3 nNum).trans (c := some NameKind.cell) (by kernel_rfl)
        have kcS := (kk3 nSize).trans (c := some NameKind.cell) (by kernel_rfl)
        have kcP := (kk3 "place").trans (c := some NameKind.local) (by kernel_rfl)
        clear kk3
        have kcF : (compEnvC oSc [(nSize, s.heap.objs.size + 1 + 1), (nNum, s.heap.objs.size + 1)] C env).scope.kind = .function := rfl
        have q1 := (N' (s.heap.objs.size + 1, o1) (by repeat (first | exact List.Mem.head _ | assumption | apply List.Mem.tail))).1
        have q2 := (N' (s.heap.objs.size + 1 + 1, o2) (by repeat (first | exact List.Mem.head _ | assumption | apply List.Mem.tail))).1
        have qC := hC.ns (N' (C, oC) (by repeat (first | exact List.Mem.head _ | assumption | apply List.Mem.tail))).1
        have rdc : Reads1 prg w (A.deeper env) (compEnvC oSc [(nSize, s.heap.objs.size + 1 + 1), (nNum, s.heap.objs.size + 1)] C env) hh (sgO n kk (some (i : Int))) :=
          @Reads1.cons _ _ _ _ _ _ _ _ (fun hhh hq1 => wpAny_Name (wpAny_loadName_cell kcF kcN rfl ⟨o1, by rw [hhh]; exact q1, d1⟩ (hq1 t1)) (by decide))
            (@Reads1.cons _ _ _ _ _ _ _ _ (fun hhh hq1 => wpAny_Name (wpAny_loadName_cell kcF kcS rfl ⟨o2, by rw [hhh]; exact q2, d2⟩ (hq1 t2)) (by decide))
              (@Reads1.cons _ _ _ _ _ _ _ _ (fun hhh hq1 => wpAny_Name (wpAny_loadName_local kcF kcP (by rw [hhh]; exact qC) hmx (hq1 t)) (by decide)) (@Reads1.none _ _ _ _ _)))
        have hik : (i : Int) < kk := by lia
        refine pE_sound oElt (s := { s with heap := hh, toks := tk' }) (Q := fun v => v = Builtin.bitAnd (n / 2 ^ (8 * (kk - 1 - i)).toNat) 255) rdc (by rw [oTe]; exact ⟨mul_small (by decide +kernel), by lia, rfl⟩) fun v tv tkv hv => ?_
        have ev : v = n / 256 ^ (kk.toNat - 1 - i) % 256 := by
          rw [hv, and_255 (Int.ediv_nonneg hn0 (Int.le_of_lt (Int.pow_pos (by decide)))), ← pow8]
          congr 3
          lia
        rw [ev]
        exact hq tv tkv
      · have hD : h'.IsList D ys.toArray := ⟨_, (N' _ (.head _)).1, rfl, ys.length, rfl⟩
        have hy' : IntsAre ys (be n kk.toNat) := by rw [be_range]; exact hy
        refine KBa.make_K (s := { s with heap := h', toks := tk' }) F' N' hr1.hh hD hy' (be_oct n kk.toNat) (by rw [be_len]; lia) fun h2 t2' k2 F2 N2 _ => ?_
        have J2 : Inv (below G' L fr) h₀ s.heap.objs.size h2 mm [] fr (own ++ (L, oL) :: aux) (own.map (·.1) ++ L :: W) [] := J.keep F2 fun p hp => N2 p (by simp only [List.mem_cons]; exact .inr (.inr (.inr hp)))
        exact hQA _ _ <| q _ h2 k2 fr (.bytes (be n kk.toNat)) (leave_inv I hoL J2 J2.hold).1 J2.hold ⟨_, t2', rfl, KBa.ints_make (be_oct n kk.toNat)⟩ (hQ hn0 hn1)
    refine wpAny_execs_cons (wpAny_If (wpAny_isTrue_BoolOp (wpAny_allTrue_Or_cons (pT_sound (s := { s with heap := h1, toks := tk1 }) oE1 hu rfl rd (Q := fun c => c = decide (n < 0)) (by rw [oT1]) fun c tk hc => ?_))))
    cases hd : decide (n < 0) with
    | true =>
      rw [hd] at hc
      subst hc
      rw [if_pos rfl, if_pos rfl]
      exact raised tk _ (.inl (of_decide_eq_true hd))
    | false =>
      rw [hd] at hc
      subst hc
      rw [if_neg Bool.false_ne_true]
      have hn0 : 0 ≤ n := by have := of_decide_eq_false hd; lia
      refine wpAny_allTrue_Or_cons (pT_sound (s := { s with heap := h1, toks := tk }) oE2 hu rfl rd (Q := fun c => c = (n / 2 ^ (8 * kk).toNat != 0)) (by rw [oT2]; exact ⟨mul_small (by decide +kernel), by lia, rfl⟩) fun c tk2 hc => ?_)
      rw [← fitN] at hc
      cases hb : (n / 256 ^ kk.toNat != 0) with
      | true =>
        rw [hb] at hc
        subst hc
        rw [if_pos rfl, if_pos rfl]
        refine raised tk2 _ (.inr ?_)
        have hne := bne_iff_ne.mp hb
        exact Int.not_lt.mp fun hlt => hne (Int.ediv_eq_zero_of_lt hn0 hlt)
      | false =>
        rw [hb] at hc
        subst hc
        rw [if_neg Bool.false_ne_true]
        refine wpAny_allTrue_Or_nil ?_
        rw [if_neg Bool.false_ne_true]
        have hz : n / 256 ^ kk.toNat = 0 := by simpa using hb
        refine wpAny_execs_nil (finish tk2 hn0 ?_)
        refine Int.not_le.mp fun hle => ?_
        have := Int.le_ediv_of_mul_le hP (show 1 * 256 ^ kk.toNat ≤ n by lia)
        lia
end
end Mine
end
section
open PySem PySem.W PySem.Spec PySem.Calls PyProof.Rows
set_option Elab.async false
namespace Mine
set_option tactic.hygienic false
set_option maxRecDepth 100000
set_option linter.unusedVariables false
set_option linter.unusedSectionVars false

noncomputable def sgN (n : Int) (x : PySem.Str) : Option Int := if x == "number" then some n else none
noncomputable def sgM (n k : Int) (x : PySem.Str) : Option Int := if x == "many" then some n else if x == "k" then some k else none
noncomputable def rA : Expr := .BinOp (.Name "number" ⟨140, 19, 140, 25⟩) .Mod (.Constant (.int 256) 0 ⟨140, 28, 140, 31⟩) ⟨140, 19, 140, 31⟩
noncomputable def rE2 : Expr := .BinOp (.Name "number" ⟨141, 17, 141, 23⟩) .FloorDiv (.Constant (.int 256) 0 ⟨141, 27, 141, 30⟩) ⟨141, 17, 141, 30⟩
noncomputable def rEi : Expr := .BinOp (.BinOp (.Name "many" ⟨142, 16, 142, 20⟩) .Sub (.Constant (.int 1) 0 ⟨142, 23, 142, 24⟩) ⟨142, 16, 142, 24⟩) .Sub (.Name "k" ⟨142, 27, 142, 28⟩) ⟨142, 16, 142, 28⟩
noncomputable def rSc : Scope := ⟨.function, [(".0", .local), ("k", .local), ("many", .free), ("out", .free)], false, false, []⟩
noncomputable def rTurn : List Stmt := [.Expr (.Call (.Attribute (.Name "out" ⟨140, 8, 140, 11⟩) "append" ⟨140, 8, 140, 18⟩) [rA] [] ⟨140, 8, 140, 32⟩) ⟨140, 8, 140, 32⟩, .Assign [.Name "number" ⟨141, 8, 141, 14⟩] rE2 ⟨141, 8, 141, 30⟩]
noncomputable def rGen : Comprehension := ⟨.Name "k" ⟨142, 34, 142, 35⟩, .Call (.Name "range" ⟨142, 39, 142, 44⟩) [.Name "many" ⟨142, 45, 142, 49⟩] [] ⟨142, 39, 142, 50⟩, [], 0⟩
noncomputable def rElt : Expr := .Subscript (.Name "out" ⟨142, 12, 142, 15⟩) rEi ⟨142, 12, 142, 29⟩
noncomputable def rBody : List Stmt := [.Assign [.Name "out" ⟨138, 4, 138, 7⟩] (.List [] ⟨138, 10, 138, 12⟩) ⟨138, 4, 138, 12⟩,
      .For (.Name "k" ⟨139, 8, 139, 9⟩) (.Call (.Name "range" ⟨139, 13, 139, 18⟩) [.Name "many" ⟨139, 19, 139, 23⟩] [] ⟨139, 13, 139, 24⟩) rTurn [] ⟨139, 4, 141, 30⟩,
      .Return (some (.ListComp rElt [rGen] rSc ⟨142, 11, 142, 51⟩)) ⟨142, 4, 142, 51⟩]
theorem row_body : (fnAt 25).2.1 = rBody := by kernel_rfl
theorem rTa (n : Int) (Q : Int → Prop) : pE (sgN n) rA Q = (0 < (256 : Int) ∧ Q (n % 256)) := by kernel_rfl
theorem rT2 (n : Int) (Q : Int → Prop) : pE (sgN n) rE2 Q = (0 < (256 : Int) ∧ (256 : Int).natAbs.log2 < 9000 ∧ Q (n / 256)) := by kernel_rfl
theorem rTi (n k : Int) (Q : Int → Prop) : pE (sgM n k) rEi Q = Q (n - 1 - k) := by kernel_rfl

noncomputable def nMany : PySem.Str := "many"
noncomputable def nOut : PySem.Str := "out"
noncomputable def nK : PySem.Str := "k"
noncomputable abbrev fR : FuncData := fnF "_law_row" "_law_row" (fnAt 25) .none (.str "law_pf0339_01" 418) 202
theorem row_env (L : Addr) : CEnv (callEnvC fR L 203) L (fnAt 25).2.2 [(nOut, L + 1 + 1), (nMany, L + 1)] := ⟨by kernel_rfl, by kernel_rfl, by kernel_rfl, by kernel_rfl, by kernel_rfl, by kernel_rfl⟩
theorem row_kinds : (fnAt 25).2.2.kind = .function ∧ (fnAt 25).2.2.names.lookup nNum = some .local ∧ (fnAt 25).2.2.names.lookup nMany = some .cell ∧ (fnAt 25).2.2.names.lookup nOut = some .cell ∧ (fnAt 25).2.2.names.lookup nK = some .local ∧ (fnAt 25).2.2.names.lookup ("range" : PySem.Str) = some NameKind.globalImplicit := ⟨by kernel_rfl, by kernel_rfl, by kernel_rfl, by kernel_rfl, by kernel_rfl, by kernel_rfl⟩
/-- the octets, the lowest first -/
noncomputable def le (n : Int) (k : Nat) : List Int := (List.range k).map fun (j : Nat) => n / 256 ^ j % 256
theorem le_succ (n : Int) (k : Nat) : le n (k + 1) = le n k ++ [n / 256 ^ k % 256] := by unfold le; rw [List.range_succ, List.map_append]; rfl
theorem le_get (n : Int) {k j : Nat} (h : j < k) : (le n k)[j]? = some (n / 256 ^ j % 256) := by unfold le; simp [h]
theorem ints_snoc {vs : List Value} {ns : List Int} {i : Int} {t : Tok} (h : IntsAre vs ns) : IntsAre (vs ++ [.int i t]) (ns ++ [i]) := by
  induction h with
  | nil => exact .cons _ _ .nil
  | cons z u r ih => exact .cons z u ih

section
variable {w : World} {h₀ : Heap} (B : Base prg w (kf w.params) h₀)
set_option maxHeartbeats 2000000 in
include B in
theorem c_row : ContractN prg w (g0 w.params) h₀ 1 (.ref 203) sRow := by
  intro A G' l L m own fr aux W ρ s ts vs Q X QQ EE k hr S I d h q x
  replace h := twoI_of h
  obtain ⟨n, kk, rfl, h⟩ := h
  · obtain ⟨v1, r1', rfl, ⟨t1, rfl⟩, v2, r2', rfl, ⟨t2, rfl⟩, rfl⟩ := d
    obtain ⟨hk0, hk1, hQ⟩ := h
    obtain ⟨oL, hoL, hnf⟩ := ns_obj I
    obtain ⟨p, loose, mg, mb, T⟩ := B.T
    have ho : (kf w.params).lookup 203 = some (fnO "_law_row" "_law_row" (fnAt 25) .none (.str "law_pf0339_01" 418) 202) := by kernel_rfl
    obtain ⟨hkd, hkN, hkM, hkO, hkK, hkR⟩ := row_kinds
    have hd := hr.depth
    refine wpAny_call (codeAny_call_cells (fd := fR) (body := (fnAt 25).2.1) (binds := [(nNum, .int n t1), (nMany, .int kk t2)]) (by show A.depth < 1000; lia) (I.F.keep _ _ (B.X _ _ ho)) rfl (T.nolimit.keeps I.F.keep) (codeRec_of (B.X.keeps I.F.keep) (by kernel_rfl)) rfl (by kernel_rfl) rfl (fun y hy => ?_) (fun s1 x1 => ?_) (by kernel_rfl) (by kernel_rfl) hkd)
    · rcases List.mem_cons.mp hy with rfl | hy
      · exact .inl hkN
      · rw [List.mem_singleton.mp hy]
        exact .inr ⟨hkM, by kernel_rfl⟩
    have CE := row_env s.heap.objs.size
    have bL1 : bindL (callEnvC fR s.heap.objs.size 203).kindOf [(nNum, .int n t1), (nMany, .int kk t2)] (fun _ => none) nNum = some (.int n t1) := by kernel_rfl
    have bC1 : bindC (callEnvC fR s.heap.objs.size 203).kindOf [(nNum, .int n t1), (nMany, .int kk t2)] (fun _ => none) nMany = some (.int kk t2) := by kernel_rfl
    have bC2 : bindC (callEnvC fR s.heap.objs.size 203).kindOf [(nNum, .int n t1), (nMany, .int kk t2)] (fun _ => none) nOut = none := by kernel_rfl
    generalize bindL (callEnvC fR s.heap.objs.size 203).kindOf [(nNum, .int n t1), (nMany, .int kk t2)] (fun _ => none) = mm at x1 bL1
    generalize bindC (callEnvC fR s.heap.objs.size 203).kindOf [(nNum, .int n t1), (nMany, .int kk t2)] (fun _ => none) = cm at x1 bC1 bC2
    generalize callEnvC fR s.heap.objs.size 203 = env at x1 CE
    obtain ⟨h1, tk1, rfl⟩ := x1.toInCall.same
    have n1 := x1.toInCall.ns
    have kp1 := x1.toInCall.keep
    have ic1 := x1.cell nMany (s.heap.objs.size + 1) (by rw [CE.cl]; rfl)
    have ic2 := x1.cell nOut (s.heap.objs.size + 1 + 1) (by rw [CE.cl]; rfl)
    rw [bC1] at ic1
    rw [bC2] at ic2
    rw [CE.loc] at n1
    dsimp only at n1 kp1 ic1 ic2
    have hks : env.scope.kind = .function := by rw [CE.sc]; exact hkd
    have kN : env.kindOf nNum = some .local := by show env.scope.names.lookup nNum = _; rw [CE.sc]; exact hkN
    have kM : env.kindOf nMany = some .cell := by show env.scope.names.lookup nMany = _; rw [CE.sc]; exact hkM
    have kO : env.kindOf nOut = some .cell := by show env.scope.names.lookup nOut = _; rw [CE.sc]; exact hkO
    have kK : env.kindOf nK = some .local := by show env.scope.names.lookup nK = _; rw [CE.sc]; exact hkK
    have kR : env.kindOf "range" = some .globalImplicit := by show env.scope.names.lookup _ = _; rw [CE.sc]; exact hkR
    have cM : env.cells.lookup nMany = some (s.heap.objs.size + 1) := by rw [CE.cl]; rfl
    have cO : env.cells.lookup nOut = some (s.heap.objs.size + 1 + 1) := by rw [CE.cl]; rfl
    obtain ⟨o1, g1, d1⟩ := ic1
    obtain ⟨o2, g2, d2⟩ := ic2
    have J := enter_inv (m1 := mm) (own1 := []) (ρ1 := []) I hoL hnf n1 kp1 (fun p hp => nomatch hp) List.nodup_nil own (fun p hp => hp) (fun p hp => nomatch hp) List.nodup_nil .nil
    have hh : (A.deeper env).handled = none := hr.hh
    generalize hb : ([] ++ fr ++ (own ++ (L, oL) :: aux) : Led) = base
    have Nb : News h₀ s.heap.objs.size h1 base := hb ▸ J.N
    have ltb : ∀ p ∈ base, p.1 < s.heap.objs.size := fun p hp => by
      rw [← hb] at hp
      simp only [List.nil_append, List.mem_append, List.mem_cons] at hp
      rcases hp with hp | hp | rfl | hp
      · exact I.look_lt p (by simp [hp])
      · exact I.look_lt p (by simp [hp])
      · exact Heap.lt_size hoL
      · exact I.look_lt p (by simp [hp])
    have low : ∀ b : Addr, s.heap.objs.size < b → b ≠ s.heap.objs.size ∧ h₀.get? b = none ∧ ∀ p ∈ base, p.1 ≠ b := fun b hb' => ⟨Nat.ne_of_gt hb', Heap.get?_none_of_le (Nat.le_trans J.F.above (Nat.le_of_lt hb')), fun p hp e => absurd (ltb p hp) (by rw [e]; exact Nat.not_lt.mpr (Nat.le_of_lt hb'))⟩
    have lM := low (s.heap.objs.size + 1) (Nat.lt_succ_self _)
    have lO := low (s.heap.objs.size + 1 + 1) (Nat.lt_succ_of_lt (Nat.lt_succ_self _))
    have hMO : s.heap.objs.size + 1 ≠ s.heap.objs.size + 1 + 1 := Nat.ne_of_lt (Nat.lt_succ_self _)
    have N1 : News h₀ s.heap.objs.size h1 ((s.heap.objs.size + 1 + 1, o2) :: (s.heap.objs.size + 1, o1) :: base) := fun p hp => by
      rcases List.mem_cons.mp hp with rfl | hp
      · exact ⟨g2, lO.1, lO.2.1⟩
      · rcases List.mem_cons.mp hp with rfl | hp
        · exact ⟨g1, lM.1, lM.2.1⟩
        · exact Nb p hp
    rw [row_body]
    suffices key : ∀ (QA : Flow → Shared → Prop) (EA : Value → Shared → Prop), (∀ v s', QQ v s' → QA (.ret v) s') → PassesOwn (model prg w) (A.deeper env) env EA →
      wpAny (model prg w) (A.deeper env) (execs rBody env) QA EA { s with heap := h1, toks := tk1 } from key _ _ (fun _ _ h => h) PassesOwn.leaving
    intro QA EA hQA hEA
    have hpS : (env.scope.kind == .class || (env.scope.kind == .module && env.locals != env.globals)) = false := by rw [hks]; rfl
    have hi : interactive env = false := by
      show ((env.scope.kind == .module) && _) = false
      rw [hks]; rfl
    have hloc := CE.loc
    -- out = []
    refine wpAny_execs_cons (wpAny_Assign_Name (List_ (Calls.spliced_nil (newList_N (s := { s with heap := h1, toks := tk1 }) (h₀ := h₀) J.F N1 (fun h2 F2 N2 => ?_) (by rw [sizeLine_eq]; decide)))))
    have gO2 := (N2 (s.heap.objs.size + 1 + 1, o2) (by repeat (first | exact List.Mem.head _ | assumption | apply List.Mem.tail))).1
    refine wpAny_storeName_cell hks kO cO ⟨o2, gO2, d2⟩ fun h3 hv3 hs3 => ?_
    obtain ⟨o3, g3, d3⟩ := hv3
    generalize hD0 : h1.objs.size = D0 at N2 d3
    have dO : D0 ≠ s.heap.objs.size + 1 + 1 := by rw [← hD0]; exact Nat.ne_of_gt (Heap.lt_size g2)
    have dM : D0 ≠ s.heap.objs.size + 1 := by rw [← hD0]; exact Nat.ne_of_gt (Heap.lt_size g1)
    have dB : ∀ p ∈ base, p.1 ≠ D0 := fun p hp => by rw [← hD0]; exact Nat.ne_of_lt (Heap.lt_size (Nb p hp).1)
    have dL : D0 ≠ s.heap.objs.size := (N2 _ (.head _)).2.1
    have d0 : h₀.get? D0 = none := (N2 _ (.head _)).2.2
    have F3 : Fr h₀ s.heap.objs.size h3 mm := ⟨F2.ns.sameBut hs3 (Ne.symm lO.1), fun b o e => (hs3.2 b (fun q' => by rw [q', lO.2.1] at e; cases e)).trans (F2.keep b o e), F2.above⟩
    have N3 : News h₀ s.heap.objs.size h3 ((D0, LCg.lst []) :: (s.heap.objs.size + 1 + 1, o3) :: (s.heap.objs.size + 1, o1) :: base) :=
      News.setAt (own := [(D0, LCg.lst [])]) N2 (fun p hp => by rw [List.mem_singleton.mp hp]; exact dO) (fun p hp => by
        rcases List.mem_cons.mp hp with rfl | hp
        · exact hMO
        · exact lO.2.2 p hp) hs3 g3
    have restD : ∀ p ∈ ((s.heap.objs.size + 1 + 1, o3) :: (s.heap.objs.size + 1, o1) :: base : Led), p.1 ≠ D0 := fun p hp => by
      rcases List.mem_cons.mp hp with rfl | hp
      · exact dO.symm
      · rcases List.mem_cons.mp hp with rfl | hp
        · exact dM.symm
        · exact dB p hp
    generalize hrest : ((s.heap.objs.size + 1 + 1, o3) :: (s.heap.objs.size + 1, o1) :: base : Led) = rest at N3 restD
    have mO : (s.heap.objs.size + 1 + 1, o3) ∈ rest := by rw [← hrest]; exact .head _
    have mM : (s.heap.objs.size + 1, o1) ∈ rest := by rw [← hrest]; exact .tail _ (.head _)
    have rdM : ∀ {A' : Around} {s' : Shared} {pos : Pos} {Q' E' : Value → Shared → Prop}, s'.heap.get? (s.heap.objs.size + 1) = some o1 → Q' (.int kk t2) s' → wpAny (model prg w) A' (eval (.Name nMany pos) env) Q' E' s' := fun g hq => wpAny_Name (wpAny_loadName_cell hks kM cM ⟨o1, g, d1⟩ hq) (by decide)
    -- the loop
    refine wpAny_execs_cons (For_invV (s := { s with heap := h3, toks := tk1 }) h₀ kK hpS (call_plain (v := .type "range") (fun a q => nomatch q) (fun hq => glob_env B (by kernel_rfl) hks kR (by decide) CE.glob CE.blt F3.keep hq) rfl (rdM (N3 _ (.tail _ mM)).1 (call_range_1 ?_))) (fun _ => rfl) hEA)
    have up4 : ∀ b o, h3.get? b = some o → (h3.push { cls := .type "range", data := .fields #[.int 0 tk1, .int kk t2, .int 1 (tk1 + 1)] }).get? b = some o := fun b o q => Heap.get?_push_of_some _ q
    have F4 := F3.keeps up4
    have N4 := N3.grown up4
    have hr4 : IsRange (h3.push { cls := .type "range", data := .fields #[.int 0 tk1, .int kk t2, .int 1 (tk1 + 1)] }) h3.objs.size 0 kk 1 tk1 t2 (tk1 + 1) := IsRange.new ..
    generalize (h3.push { cls := .type "range", data := .fields #[.int 0 tk1, .int kk t2, .int 1 (tk1 + 1)] }) = h4 at F4 N4 hr4
    refine wpAny_pyIter_range hr4 (range_small (by decide) (by lia) (by lia) (by lia) (by lia) (by lia)).1 ?_
    have W' : Walks prg w (A.deeper env) h4.objs.size [h4.objs.size] [h4.objs.size] kk.toNat (fun i v => ∃ t, v = .int (0 + (i : Int)) t) (fun i h => IsRangeIter h h4.objs.size (0 + (i : Nat) * 1) ((kk.toNat : Int) - (i : Nat)) 1) := LCg.range_walks hh 0 kk.toNat
    refine ⟨h4.objs.size, [h4.objs.size], [h4.objs.size], kk.toNat, _, _, mm, (D0, LCg.lst []) :: rest, fun i m₁ nw => ∃ vs t, nw = (D0, LCg.lst vs) :: rest ∧ IntsAre vs (le n i) ∧ m₁ nNum = some (.int (n / 256 ^ i) t), rfl, W', ?_, ?_, ?_, ?_, ?_, ?_, ?_, ?_, ?_⟩
    · rw [hloc]; intro hm
      exact absurd F4.ns.lt ((List.mem_singleton.mp hm) ▸ Nat.lt_irrefl _)
    · intro b hb'
      rw [List.mem_singleton.mp hb']
      exact next_is_new F4
    · intro p hp hI
      exact absurd (Heap.lt_size (N4 p hp).1) ((List.mem_singleton.mp hI) ▸ Nat.lt_irrefl _)
    · show IsRangeIter _ _ _ _ _
      rw [range_n hk0]
      simpa using Heap.get?_push_size _ rfl
    · rw [hloc]; exact F4.push _
    · rw [hloc]; exact fun p hp => ⟨Heap.get?_push_of_some _ (N4 p hp).1, (N4 p hp).2⟩
    · exact ⟨[], t1, rfl, .nil, by rw [Int.pow_zero, Int.ediv_one]; exact bL1⟩
    · rintro i v m₁ news₁ s₁ own₁ ⟨hh', tk', rfl⟩ hi' hP ⟨vs, t, rfl, hv, hm⟩ hoff hown _ _ _ Fa Na
      rw [hloc] at Fa Na ⊢
      dsimp only at Fa Na
      have D0I : ∀ p ∈ own₁, p.1 ≠ D0 := fun p hp e => hoff (D0, LCg.lst vs) (.head _) (e ▸ hown p hp)
      have gO := (Na (s.heap.objs.size + 1 + 1, o3) (List.mem_append_right _ (.tail _ mO))).1
      have gD := (Na (D0, LCg.lst vs) (List.mem_append_right _ (.head _))).1
      have hvl : vs.length = i := by rw [hv.length]; unfold le; simp
      refine wpAny_execs_cons (wpAny_Expr (wpAny_Call_append rfl rfl rfl rfl (wpAny_Name (wpAny_loadName_cell hks kO cO ⟨o3, gO, d3⟩ ⟨D0, vs.toArray, rfl, ⟨_, vs.length, gD, rfl, rfl, rfl⟩, ?_⟩) (by decide))) hi rfl)
      have rdn : ∀ {hh : Heap}, Heap.Ns hh s.heap.objs.size (fun y => if y = "k" then some v else m₁ y) → Reads1 prg w (A.deeper env) env hh (sgN (n / 256 ^ i)) := fun ns =>
        @Reads1.cons _ _ _ _ _ _ _ _ (fun hhh hq1 => wpAny_Name (wpAny_loadName_local hks kN (by rw [hhh, hloc]; exact ns) (by
            show (if nNum = "k" then some v else m₁ nNum) = _
            rw [if_neg (by decide)]; exact hm) (hq1 t)) (by decide)) (@Reads1.none _ _ _ _ _)
      refine pE_sound rA (s := { s with heap := hh', toks := tk' }) (Q := fun u => u = n / 256 ^ i % 256) (rdn Fa.ns) (by rw [rTa]; exact ⟨by decide, rfl⟩) fun u tu tku hu => ?_
      subst hu
      refine append_at (s := { s with heap := hh', toks := tku }) gD (fun h6 hs6 ho6 => ?_) (by rw [List.size_toArray, hvl, sizeLine_eq]; lia)
      have F6 : Fr h₀ s.heap.objs.size h6 (fun y => if y = "k" then some v else m₁ y) := ⟨Fa.ns.sameBut hs6 (Ne.symm dL), fun b o e => (hs6.2 b (fun q' => by rw [q', d0] at e; cases e)).trans (Fa.keep b o e), Fa.above⟩
      have N6 : News h₀ s.heap.objs.size h6 (own₁ ++ (D0, LCg.lst (vs ++ [.int (n / 256 ^ i % 256) tu])) :: rest) := News.setAt (own := own₁) Na D0I restD hs6 (ho6.trans (congrArg some (LCg.lst_snoc vs _)))
      refine wpAny_execs_cons (wpAny_Assign_Name (pE_sound rE2 (s := { s with heap := h6, toks := tku }) (Q := fun u => u = n / 256 ^ i / 256) (rdn F6.ns) (by rw [rT2]; exact ⟨by decide, by decide +kernel, rfl⟩) fun u2 tu2 tku2 hu2 => ?_) rfl)
      subst hu2
      refine wpAny_storeName_local (s := { s with heap := h6, toks := tku2 }) kN (by rw [hloc]; exact F6.ns) (fun h7 n7 s7 => ?_) hpS
      rw [hloc] at n7 s7
      refine wpAny_execs_nil (LoopStepV.next (LoopStepU.intro (F6.set n7 s7) (N6.set s7) (fun p hp => ?_) ⟨vs ++ [.int (n / 256 ^ i % 256) tu], tu2, rfl, ?_, ?_⟩))
      · rcases List.mem_cons.mp hp with rfl | hp
        · exact hoff (D0, LCg.lst vs) (.head _)
        · exact hoff p (.tail _ hp)
      · rw [le_succ]; exact ints_snoc hv
      · show (if nNum = nNum then _ else _) = _
        rw [if_pos rfl, pow_succ_div]
    · rintro h' tk' m' news' F' N' _ ⟨vs, t, rfl, hv, hm⟩
      rw [hloc] at F' N'
      have hclos : closureFor rSc env = pure [(nOut, s.heap.objs.size + 1 + 1), (nMany, s.heap.objs.size + 1)] := clos_two rfl cM cO
      refine wpAny_execs_cons (wpAny_Return_some (comp_range (s := { s with heap := h', toks := tk' }) (ccl := [(nOut, s.heap.objs.size + 1 + 1), (nMany, s.heap.objs.size + 1)]) (k := kk) (g := fun i => n / 256 ^ (kk.toNat - 1 - i) % 256) hh F' N' hclos (by decide +kernel) rfl (by decide +kernel) rfl (fun hq => glob_env B (by kernel_rfl) hks kR (by decide) CE.glob CE.blt F'.keep hq) rfl (fun hq => rdM (N' _ (.tail _ mM)).1 (hq t2)) hk0 (by lia) (fun i tt Ia oI C oC D m₂ ys hh2 tk2 E' QQ' hi2 hC hmx F2' N2' hq => ?_) fun D h2' tk2 ys F2' N2' hOff hy => ?_))
      · have kk3 := comp_kinds (csc := rSc) (cl := [(nOut, s.heap.objs.size + 1 + 1), (nMany, s.heap.objs.size + 1)]) (C := C) rfl hks kM kO
        have kcM := (kk3 nMany).trans (c := some NameKind.cell) (by kernel_rfl)
        have kcO := (kk3 nOut).trans (c := some NameKind.cell) (by kernel_rfl)
        have kcK := (kk3 nK).trans (c := some NameKind.local) (by kernel_rfl)
        clear kk3
        have kcF : (compEnvC rSc [(nOut, s.heap.objs.size + 1 + 1), (nMany, s.heap.objs.size + 1)] C env).scope.kind = .function := rfl
        have qM := (N2' (s.heap.objs.size + 1, o1) (by repeat (first | exact List.Mem.head _ | assumption | apply List.Mem.tail))).1
        have qO := (N2' (s.heap.objs.size + 1 + 1, o3) (by repeat (first | exact List.Mem.head _ | assumption | apply List.Mem.tail))).1
        have qD := (N2' (D0, LCg.lst vs) (by repeat (first | exact List.Mem.head _ | assumption | apply List.Mem.tail))).1
        have qC := hC.ns (N2' (C, oC) (by repeat (first | exact List.Mem.head _ | assumption | apply List.Mem.tail))).1
        have rdc : Reads1 prg w (A.deeper env) (compEnvC rSc [(nOut, s.heap.objs.size + 1 + 1), (nMany, s.heap.objs.size + 1)] C env) hh2 (sgM kk (i : Int)) :=
          @Reads1.cons _ _ _ _ _ _ _ _ (fun hhh hq1 => wpAny_Name (wpAny_loadName_cell kcF kcM rfl ⟨o1, by rw [hhh]; exact qM, d1⟩ (hq1 t2)) (by decide))
            (@Reads1.cons _ _ _ _ _ _ _ _ (fun hhh hq1 => wpAny_Name (wpAny_loadName_local kcF kcK (by rw [hhh]; exact qC) hmx (hq1 tt)) (by decide)) (@Reads1.none _ _ _ _ _))
        refine Subscript_ (wpAny_Name (wpAny_loadName_cell kcF kcO rfl ⟨o3, qO, d3⟩ ?_) (by decide))
        refine pE_sound rEi (s := { s with heap := hh2, toks := tk2 }) (Q := fun u => u = kk - 1 - i) rdc (by rw [rTi]) fun u tu tku hu => ?_
        subst hu
        have hil : (kk - 1 - (i : Int)).toNat = kk.toNat - 1 - i := by lia
        have hget := le_get n (k := kk.toNat) (j := kk.toNat - 1 - i) (by lia)
        have hlen : vs.length = kk.toNat := by rw [hv.length]; unfold le; simp
        have hvl : (kk - 1 - (i : Int)).toNat < vs.length := by lia
        obtain ⟨x0, tx, ex, en⟩ := IntsAre.at hv (kk - 1 - (i : Int)).toNat (vs[(kk - 1 - (i : Int)).toNat]) (List.getElem?_eq_getElem hvl)
        rw [hil, hget] at en
        cases en
        have hl : ({ s with heap := hh2, toks := tku } : Shared).heap.IsList D0 vs.toArray := ⟨_, qD, rfl, vs.length, rfl⟩
        obtain ⟨ops, hs⟩ := sub_ops rEi (.ref D0) (.int (kk - 1 - (i : Int)) tu)
        refine tail_any (s := { s with heap := hh2, toks := tku }) hl.typeIs slot_list_getitem.lookup (wpAny_getItem_list (x := .int (n / 256 ^ (kk.toNat - 1 - i) % 256) tx) hl (by lia) (by lia) ?_ (hq tx tku)) hs
        rw [← ex]
        simp [hvl]
      · have hy' : IntsAre ys (be n kk.toNat) := by rw [be_range]; exact hy
        have J2 : Inv (below G' L fr) h₀ s.heap.objs.size h2' m' [] fr (own ++ (L, oL) :: aux) (own.map (·.1) ++ L :: W) [] := by
          refine ⟨F2', fun p hp => N2' p ?_, ⟨.nil, List.nodup_nil, List.nodup_nil, fun p hp => (nomatch hp), J.S.offW⟩, J.live, J.cover, J.outs, J.hold⟩
          rw [hb] at hp
          rw [← hrest]
          exact .tail _ (.tail _ (.tail _ (.tail _ hp)))
        obtain ⟨I', _⟩ := leave_inv I hoL J2 J2.hold
        have nD : ∀ p ∈ base, p.1 ≠ D := fun p hp => by
          have key : ∀ l : Led, LCg.Off1 D l → ∀ p ∈ l, p.1 ≠ D := by
            intro l
            induction l with
            | nil => intro _ p hp; cases hp
            | cons a r ih =>
              intro ho p hp
              rcases List.mem_cons.mp hp with rfl | hp
              · exact ho.1
              · exact ih ho.2 p hp
          exact key _ hOff p (by rw [← hrest]; exact .tail _ (.tail _ (.tail _ hp)))
        have inb : ∀ p, p ∈ fr ∨ p ∈ own ∨ p = (L, oL) ∨ p ∈ aux → p ∈ base := fun p hp => by rw [← hb]; simpa using hp
        have hNd := N2' (D, LCg.lst ys) (.head _)
        refine hQA _ _ (q (.ref D) h2' tk2 fr (.list ((be n kk.toNat).map Tr.int)) [(D, LCg.lst ys)] I' (fun _ h => h) (.list (DenL.of_ints hy')) ⟨fun p hp => ?_, by simp, fun p hp r hr' e => ?_, fun p hp hW => ?_⟩ hQ)
        · rw [List.mem_singleton.mp hp]
          exact ⟨hNd.1, fun e => nD (L, oL) (inb _ (.inr (.inr (.inl rfl)))) e.symm, hNd.2.2⟩
        · rw [List.mem_singleton.mp hp] at e
          rcases List.mem_append.mp hr' with hr' | hr'
          · exact nD r (inb r (.inr (.inl hr'))) e.symm
          · exact nD r (inb r (.inl hr')) e.symm
        · rw [List.mem_singleton.mp hp] at hW
          obtain ⟨o, hoW⟩ := I.live _ hW
          exact nD (D, o) (inb _ (.inr (.inr (.inr hoW)))) rfl
end
end Mine
end
section
open PySem PySem.W PySem.Spec PySem.Calls PyProof.Rows
set_option Elab.async false
namespace Mine
set_option tactic.hygienic false
set_option maxRecDepth 100000
set_option linter.unusedVariables false
set_option linter.unusedSectionVars false

section
variable {M : Model} {A : Around} {E : Value → Shared → Prop} {nm q : PySem.Str} {C N : Addr} {bs bm : List Value} {hdct : Bool} {sn : List PySem.Str} {sub : List Value} {ab : Bool} {col : Option Bool} {dd : Option Addr} {k0 k1 k2 k3 k5 : Option Value} {newId : String}
variable {nm' q' : PySem.Str} {C' N' : Addr} {bs' bm' : List Value} {hdct' : Bool} {sn' : List PySem.Str} {sub' : List Value} {ab' : Bool} {col' : Option Bool} {dd' : Option Addr} {k0' k1' k2' k3' k5' : Option Value} {newId' : String}
theorem exc_matches {h : Heap} {g : Array GenState} {d : Drawn} {t : Nat} {os : OsState} {e : Addr} {oe : Obj} {b : Bool} {Q : Bool → Shared → Prop}
    (hC' : h.get? C' = some (excClassObj nm' q' C' N' bs' bm' hdct' sn' sub' ab' col' dd' k0' k1' k2' k3' k5' newId')) (hC : h.get? C = some (excClassObj nm q C N bs bm hdct sn sub ab col dd k0 k1 k2 k3 k5 newId)) (he : h.get? e = some oe) (hcls : oe.cls = .ref C)
    (hbase : bm'.contains (.type "BaseException") = true) (hb : (Value.ref C :: bm).contains (.ref C') = b) (hq : Q b ⟨h, g, d, t, os⟩) : wpAny M A (excMatches (.ref e) (.ref C')) Q E ⟨h, g, d, t, os⟩ := by
  have hcB : (Value.ref C' :: bm').contains (.type "BaseException") = true := by rw [List.contains_cons, hbase, Bool.or_true]
  have f := tc_notTuple
  unfold excMatches
  repeat (first | (with_reducible refine wpAny_loadPart_at he ?_; rw [hcls]) | with_reducible refine wpAny_loadPart_at hC' ?_ | (with_reducible refine wpAny_isSubtype_exc hC' ?_; rw [hcB]) | (with_reducible refine wpAny_isSubtype_exc hC ?_; rw [hb]) | wp_step)
  cases b <;> (wp_walk; exact hq)
end

/-- an exception that has landed -/
structure Landed (h₀ : Heap) (ll : List Env) (led : Led) (h : Heap) (e C : Addr) (y : PySem.Str) : Prop where
  stays : ∀ b o, h₀.get? b = some o → h.get? b = some o
  kept : ∀ p ∈ led, (p.1 ∉ framesOf ll → h.get? p.1 = some p.2) ∧ ∃ sl, h.get? p.1 = some { p.2 with slots := sl }
  exc : ∃ (d : Addr) (vs : Array Value) (es : List DictEntry) (n : Nat) (t : Tok) (sl : Array (Option Value)), h.get? e = some { cls := .ref C, dict := some d, data := .fields vs, slots := sl } ∧ h₀.get? e = none ∧ h.get? d = some (dictOf es n) ∧ h₀.get? d = none ∧ getL "why" es = some (some (.str y t)) ∧
    d ∉ framesOf ll ∧ e ∉ led.map (·.1) ∧ d ∉ led.map (·.1)

theorem flight_off {M : Model} {A : Around} {E : Value → Shared → Prop} {s : Shared} {h₀ : Heap} {ll : List Env} {L e C : Addr} {y : PySem.Str} {m : PySem.Str → Option Value} {led : Led} {Q : Unit → Shared → Prop} (X : Flies h₀ ll L m led s.heap e C y) (k : ∀ h', Flies h₀ ll L m led h' e C y → Q () { s with heap := h' }) :
    wpAny M A (setFlight (.ref e) none) Q E s := by
  obtain ⟨d, vs, es, n, t, sl, he, he0, hsz, hdd, hd0, hw, hdf, heL, hdL, hT⟩ := X.exc
  rcases hT with hT | ⟨T, oT, ts, t1, t2, t3, t4, t5, t6, t7⟩
  · unfold setFlight
    refine wpAny_bind (wpAny_field he rfl hT ?_)
    rw [if_neg (by decide)]
    exact wpAny_pure (k s.heap X)
  · refine wpAny_setFlight_none he rfl t1 t5 t6 (Array.getElem?_eq_some_iff.mp t7).1 (k _ ?_)
    have other : ∀ b, b ≠ T → (s.heap.update T (Obj.mapFields (·.setIfInBounds 3 Value.none))).get? b = s.heap.get? b := fun b hb => Heap.get?_update_other _ _ hb.symm
    have nf : ∀ b o, s.heap.get? b = some o → (∀ vs, o.data ≠ .fields vs) → b ≠ T := fun b o hb hn z => by rw [z, t5] at hb; cases hb; exact hn ts t6
    have self := Heap.get?_update_self (Obj.mapFields (·.setIfInBounds 3 Value.none)) t5 (Obj.isFreed_of_fields (Obj.data_mapFields t6 _))
    refine ⟨fun b o hb => (other b (fun z => by rw [z, t2] at hb; cases hb)).trans (X.stays b o hb), X.frames.of_keeps fun b o hb hnf => ⟨o, (other b (nf b o hb hnf)).trans hb, rfl⟩, ?_, fun p hp => ?_, d, vs, es, n, t, sl, (other e t3.symm).trans he, he0, hsz, (other d (nf d _ hdd fun _ z => nomatch z)).trans hdd, hd0, hw, hdf, heL, hdL, .inr ⟨T, _, ts.setIfInBounds 3 .none, t1, t2, t3, t4, self, Obj.data_mapFields t6 _, ?_⟩⟩
    · obtain ⟨o, es', ep, ho, hdt, r⟩ := X.ns
      exact ⟨o, es', ep, (other L (nf L o ho fun vs q => by rw [hdt] at q; cases q)).trans ho, hdt, r⟩
    · have hpT : p.1 ≠ T := fun z => t4 (z ▸ List.mem_map_of_mem hp)
      obtain ⟨a, sl', b⟩ := X.kept p hp
      exact ⟨fun hn => (other _ hpT).trans (a hn), sl', (other _ hpT).trans b⟩
    · obtain ⟨a, b⟩ := Array.getElem?_eq_some_iff.mp t7
      simp [a]

section
variable {prog : Program} {w : World} {A : Around} {E : Value → Shared → Prop} {s : Shared} {K : Frag} {h₀ : Heap} {env : Env} {l : List Env} {L e C C' fI fI' : Addr} {y : PySem.Str} {m : PySem.Str → Option Value} {led : Led}
/-- one clause of a try -/
theorem handle_step (B : Base prog w K h₀) (XC : ExcCls K C fI) (XC' : ExcCls K C' fI') {b : Bool} (hb : ∀ x : ECls, K.lookup C = some (x.obj C) → (Value.ref C :: x.bm).contains (.ref C') = b)
    (X : Flies h₀ (env :: l) L m led s.heap e C y) (hk : env.scope.kind = .function) (hloc : env.locals = L) (hg : env.globals = mainGlobals) (hbl : env.builtins = builtinsNs) (hL0 : h₀.get? L = none) (hfr : env.frame = some L) (hLled : ∀ p ∈ led, p.1 ≠ L)
    {x n : PySem.Str} {np rp pos : Pos} {ex : Expr} {rest : List ExceptHandler} {Q : Flow → Shared → Prop} (hx : gvK K x = some (.ref C')) (hkx : env.kindOf x = some .globalImplicit) (hdx : (x == ("__debug__" : PySem.Str)) = false) (hkn : env.kindOf n = some .local)
    (yes : b = true → ∀ h2 m2 tk (E2 : Value → Shared → Prop), Landed h₀ (env :: l) led h2 e C y → h2.Ns L m2 → m2 n = some (.ref e) → (∀ z, z ≠ n → m2 z = m z) → wpAny (model prog w) (A.mark (some (.ref e))) (eval ex env) (fun v s4 => ∀ h5 tk5, Heap.SameBut L s4.heap h5 → Q (.ret v) { s4 with heap := h5, toks := tk5 } ∧ ∃ m4, s4.heap.Ns L m4) E2 { s with heap := h2, toks := tk })
    (no : b = false → wpAny (model prog w) A (handleBy (.ref e) env rest) Q E s) :
    wpAny (model prog w) A (handleBy (.ref e) env (.ExceptHandler (some (.Name x np)) (some n) [.Return (some ex) rp] pos :: rest)) Q E s := by
  obtain ⟨cx, hC, O⟩ := XC.obj
  obtain ⟨cx', hC', O'⟩ := XC'.obj
  obtain ⟨d, vs, es, nn, t, sl, he, _⟩ := X.exc
  refine wpAny_handleBy_cons (codeAny_handlers_test (glob_env B hx hk hkx hdx hg hbl X.stays ?_)) (by intro q; cases q)
  obtain ⟨hp, gg, dr, tk, os⟩ := s
  refine exc_matches (X.stays _ _ (B.X _ _ hC')) (X.stays _ _ (B.X _ _ hC)) he rfl O'.b (hb cx hC) ?_
  cases b with
  | false => exact no rfl
  | true =>
    refine codeAny_handlers_suite_as (flight_off X fun h1 X1 => ?_)
    have hp : (env.scope.kind == .class || (env.scope.kind == .module && env.locals != env.globals)) = false := by rw [hk]; rfl
    refine wpAny_storeName_local hkn (by rw [hloc]; exact X1.ns) (fun h2 n2 s2 => ?_) hp
    rw [hloc] at n2 s2
    obtain ⟨d', vs', es', n', t', sl', he', he0', hsz', hdd', hd0', hw', hdf', heL', hdL', hT'⟩ := X1.exc
    obtain ⟨oL, esL, epL, hoL, hdL0, _⟩ := X1.ns
    have heL2 : e ≠ L := fun z => by rw [z, hoL] at he'; cases he'; cases hdL0
    have hLfr : L ∈ framesOf (env :: l) := by unfold framesOf; rw [List.filterMap_cons, hfr]; exact .head _
    have hdL2 : d' ≠ L := fun z => hdf' (z ▸ hLfr)
    have X2 : Landed h₀ (env :: l) led h2 e C y := ⟨fun b o hbo => (s2.2 b (fun z => by rw [z, hL0] at hbo; cases hbo)).trans (X1.stays b o hbo), fun p hp => by
      obtain ⟨a, sl2, b⟩ := X1.kept p hp
      exact ⟨fun hn => (s2.2 _ (hLled p hp)).trans (a hn), sl2, (s2.2 _ (hLled p hp)).trans b⟩, d', vs', es', n', t', sl', (s2.2 e heL2).trans he', he0', (s2.2 d' hdL2).trans hdd', hd0', hw', hdf', heL', hdL'⟩
    refine wpAny_execs_cons (wpAny_Return_some (wpAny_mono (yes rfl h2 _ _ _ X2 n2 (by rw [if_pos rfl]) fun z hz => by rw [if_neg hz]) (fun v s4 hq => ?_) fun _ _ z => z))
    obtain ⟨_, m4, n4⟩ := hq s4.heap s4.toks ⟨rfl, fun _ _ => rfl⟩
    refine wpAny_nameGoes hkn (by rw [hloc]; exact n4) hp fun h5 m5 n5 s5 => ?_
    rw [hloc] at s5
    exact (hq h5 _ s5).1
end
end Mine
end
section
open PySem PySem.W PySem.Spec PySem.Calls PyProof.Rows
set_option Elab.async false
namespace Mine
set_option tactic.hygienic false
set_option maxRecDepth 100000
set_option linter.unusedVariables false
set_option linter.unusedSectionVars false

/-- a contract for calls out of the outermost frame -/
noncomputable def Contract1 (prog : Program) (w : World) (G : Wo) (h₀ : Heap) (n : Nat) (v : Value) (sp : Spec) : Prop :=
  ∀ {A : Around} {G' : Wo} {l : List Env} {L : Addr} {m : PySem.Str → Option Value} {own fr aux : Led} {W : List Addr} {ρ : Loc} {s : Shared} {ts : List Tr} {vs : List Value} {Q : Tr → Prop} {X : Addr → PySem.Str → Prop} {QQ EE : Value → Shared → Prop}, G.Like G' → Room A n → Stack A G' L l → framesOf l = [L] → Inv G' h₀ L s.heap m own fr aux W ρ → DenL G' (PF h₀ fr) ts vs → sp ts Q X →
    VPost G' h₀ L m own fr aux W ρ s Q QQ → wpAny (model prog w) A (call v vs) QQ EE s

theorem Flies.sub {h₀ h : Heap} {ll : List Env} {L : Addr} {m : PySem.Str → Option Value} {led led' : Led} {e C : Addr} {y : PySem.Str} (X : Flies h₀ ll L m led h e C y) (hs : ∀ p ∈ led', p ∈ led) : Flies h₀ ll L m led' h e C y := by
  obtain ⟨d, vs, es, n, t, sl, he, he0, hsz, hdd, hd0, hw, hdf, heL, hdL, hT⟩ := X.exc
  have sub : ∀ b, b ∉ led.map (·.1) → b ∉ led'.map (·.1) := fun b hb hm => by
    obtain ⟨p, hp, rfl⟩ := List.mem_map.mp hm
    exact hb (List.mem_map_of_mem (hs p hp))
  exact ⟨X.stays, X.frames, X.ns, fun p hp => X.kept p (hs p hp), d, vs, es, n, t, sl, he, he0, hsz, hdd, hd0, hw, hdf, sub e heL, sub d hdL, hT.imp id fun ⟨T, oT, ts, a, b, c, d, r⟩ => ⟨T, oT, ts, a, b, c, sub T d, r⟩⟩

/-- what stands behind a clause that has returned -/
structure Back (h₀ : Heap) (ll : List Env) (led nw : Led) (h : Heap) : Prop where
  stays : ∀ b o, h₀.get? b = some o → h.get? b = some o
  kept : ∀ p ∈ led, (p.1 ∉ framesOf ll → h.get? p.1 = some p.2) ∧ ∃ sl, h.get? p.1 = some { p.2 with slots := sl }
  new : ∀ p ∈ nw, h.get? p.1 = some p.2 ∧ h₀.get? p.1 = none ∧ p.1 ∉ led.map (·.1)

theorem back_inv {G : Wo} {h₀ h5 : Heap} {L L' : Addr} {l : List Env} {env : Env} {m : PySem.Str → Option Value} {own fr aux led nw : Led} {W : List Addr} {ρ : Loc} {s : Shared} {oL : Obj} (I : Inv G h₀ L s.heap m own fr aux W ρ) (hoL : s.heap.get? L = some oL) (hl : framesOf l = [L]) (hf : env.frame = some L') (hL' : s.heap.objs.size ≤ L')
    (hled : ∀ p, p ∈ own ∨ p ∈ fr ∨ p ∈ aux ∨ p = (L, oL) → p ∈ led) (X : Back h₀ (env :: l) led nw h5) : Inv G h₀ L h5 m own (nw ++ fr) aux W ρ := by
  have hfr : framesOf (env :: l) = [L', L] := by unfold framesOf at hl ⊢; rw [List.filterMap_cons, hf, hl]
  have same : ∀ p, p ∈ own ++ fr ++ aux → h5.get? p.1 = some p.2 ∧ p.1 ≠ L ∧ h₀.get? p.1 = none := fun p hp => by
    have hN := I.N p hp
    refine ⟨(X.kept p (hled p ?_)).1 ?_, hN.2⟩
    · simp only [List.mem_append] at hp
      rcases hp with (a | a) | a
      · exact .inl a
      · exact .inr (.inl a)
      · exact .inr (.inr (.inl a))
    · rw [hfr]
      intro hm
      rcases List.mem_cons.mp hm with e | hm
      · exact absurd (Heap.lt_size hN.1) (by rw [e]; exact Nat.not_lt.mpr hL')
      · exact hN.2.1 (List.mem_singleton.mp hm)
  have nn : ∀ p ∈ nw, ∀ q, q ∈ own ∨ q ∈ fr ∨ q ∈ aux ∨ q = (L, oL) → p.1 ≠ q.1 := fun p hp q hq e => (X.new p hp).2.2 (e ▸ List.mem_map_of_mem (hled q hq))
  refine ⟨⟨?_, X.stays, I.F.above⟩, fun p hp => ?_, ⟨I.S.loc.mono (PF.mono fun p hp => List.mem_append_right _ hp), I.S.nd, I.S.ndo, fun p hp q hq => ?_, fun p hp hW => ?_⟩, I.live, I.cover, I.outs, fun p hp => List.mem_append_right _ (I.hold p hp)⟩
  · obtain ⟨o, es, ep, ho, hd, r⟩ := I.F.ns
    rw [hoL] at ho
    cases ho
    obtain ⟨_, sl, q⟩ := X.kept (L, oL) (hled _ (.inr (.inr (.inr rfl))))
    exact ⟨_, es, ep, q, hd, r⟩
  · simp only [List.mem_append] at hp
    rcases hp with (hp | hp | hp) | hp
    · exact same p (by simp [hp])
    · exact ⟨(X.new p hp).1, nn p hp (L, oL) (.inr (.inr (.inr rfl))), (X.new p hp).2.1⟩
    · exact same p (by simp [hp])
    · exact same p (by simp [hp])
  · rcases List.mem_append.mp hq with hq | hq
    · exact (nn q hq p (.inl hp)).symm
    · exact I.S.off p hp q hq
  · rcases List.mem_append.mp hp with hp | hp
    · exact I.S.offW p (List.mem_append_left _ hp) hW
    · rcases List.mem_append.mp hp with hp | hp
      · obtain ⟨o, ho⟩ := I.live _ hW
        exact nn p hp (p.1, o) (.inr (.inr (.inl ho))) rfl
      · exact I.S.offW p (List.mem_append_right _ hp) hW

section
variable {prog : Program} {w : World} {A : Around} {cn : PySem.Str} {sc : Scope} {fa : Addr} {cd : Value} {G : Wo} {h₀ : Heap} {L : Addr} {EN : ENow} {Γ : Sig} {gv : PySem.Str → Option Value}
/-- statements ahead of something else -/
theorem pre_sound {kp : List PySem.Str} (H : FG prog w A cn sc L fa cd G h₀ EN Γ gv) {rest : List Stmt} {aux : Led} {W : List Addr} {Rn : Loc → Prop} {QQ : Flow → Shared → Prop} {EE : Value → Shared → Prop} (hE : PassesOwn (model prog w) A (envOf cn sc L fa cd) EE) : ∀ (pre : List Stmt) {m : PySem.Str → Option Value} {own fr : Led} {ρ : Loc} {s : Shared}, okB sc kp pre = true → wpB Γ pre ρ (fun fl ρ1 => fl = .next ∧ Rn ρ1) (fun _ _ _ => False) → Inv G h₀ L s.heap m own fr aux W ρ →
    (∀ h' tk' m' own' fr' ρ', Inv G h₀ L h' m' own' fr' aux W ρ' → (∀ p ∈ fr, p ∈ fr') → Rn ρ' → wpAny (model prog w) A (execs rest (envOf cn sc L fa cd)) QQ EE { s with heap := h', toks := tk' }) → wpAny (model prog w) A (execs (pre ++ rest) (envOf cn sc L fa cd)) QQ EE s
  | [], m, own, fr, ρ, s, _, h, I, k => by
    exact k s.heap s.toks m own fr ρ I (fun _ h => h) (show Fl.next = .next ∧ Rn ρ from h).2
  | st :: r, m, own, fr, ρ, s, ok, h, I, k => by
    replace ok := and2 ok
    have hs : SS prog w A cn sc L fa cd G h₀ EN Γ kp st := (sound_all (kp := kp) H (sizeOf st + 1)).1 st (Nat.lt_succ_self _)
    refine wpAny_execs_cons (hs ok.1 (Q := fun fl ρ1 => match fl with
      | .next => wpB Γ r ρ1 (fun fl ρ1 => fl = .next ∧ Rn ρ1) (fun _ _ _ => False)
      | fl => fl = .next ∧ Rn ρ1) h I hE (fun fl f h1 tk1 m1 own1 fr1 ρ1 km1 I1 f1 r1 q1 => ?_) fun _ _ _ _ _ _ _ _ _ _ hx => hx.elim)
    cases r1 with
    | next => exact pre_sound H hE r (s := { s with heap := h1, toks := tk1 }) ok.2 q1 I1 fun h' tk' m' own' fr' ρ' I' f' q' => k h' tk' m' own' fr' ρ' I' (fun p hp => f' p (f1 p hp)) q'
    | cont => exact nomatch q1.1
    | ret d => exact nomatch q1.1
    | retm a b => exact nomatch q1.1
end

section
variable {prog : Program} {w : World} {K : Frag} {h₀ : Heap} {G : Wo} {f : Addr} {qual : PySem.Str} {body pre : List Stmt} {scope : Scope} {cdv : Value} {names : List PySem.Str} {fill : List Tr → Option (List Tr)} {n : Nat} {Γ : Sig} {e0 : Expr} {rp tp : Pos} {h0 : ExceptHandler} {hs : List ExceptHandler}

/-- what the clauses of a try give -/
noncomputable def Catches (prog : Program) (w : World) (G : Wo) (h₀ : Heap) (qual : PySem.Str) (scope : Scope) (f : Addr) (cdv : Value) (handlers : List ExceptHandler) (P : List Tr → Loc → (Tr → Prop) → Addr → PySem.Str → Prop) : Prop :=
  ∀ {A : Around} {G' : Wo} {l : List Env} {L : Addr} {m : PySem.Str → Option Value} {own fr aux led : Led} {W : List Addr} {ρ : Loc} {s : Shared} {h1 : Heap} {e C : Addr} {y : PySem.Str} {ts : List Tr} {Q : Tr → Prop} {QQ : Flow → Shared → Prop} {EE : Value → Shared → Prop}, G.Like G' → Inv G' h₀ L h1 m own fr aux W ρ → Flies h₀ (envOf qual scope L f cdv :: l) L m led s.heap e C y → P ts ρ Q C y → (∀ p ∈ led, p.1 ≠ L) →
    (∀ v h5 tk5 nw t, Back h₀ (envOf qual scope L f cdv :: l) led nw h5 → Den G' (PF h₀ nw) t v → Q t → QQ (.ret v) { s with heap := h5, toks := tk5 }) → wpAny (model prog w) A (handleBy (.ref e) (envOf qual scope L f cdv) handlers) QQ EE s

theorem contract1_try (B : Base prog w K h₀) (D : Def K f qual body scope cdv names fill) (R : Reader prog w K G h₀ n qual scope f cdv Γ) (hbody : body = pre ++ [.Try [.Return (some e0) rp] (h0 :: hs) [] [] tp]) (okp : okB scope [] pre = true) (oke : okE scope e0 = true) {sp : Spec} {P : List Tr → Loc → (Tr → Prop) → Addr → PySem.Str → Prop}
    (hsp : ∀ ts Q X, sp ts Q X → ∃ full, fill ts = some full ∧ wpB Γ pre (names.zip (full.map Slot.val)) (fun fl ρ1 => fl = .next ∧ wpE Γ.fn e0 ρ1 (fun t _ => Q t) (fun C y _ => P ts ρ1 Q C y)) (fun _ _ _ => False))
    (catch_ : Catches prog w G h₀ qual scope f cdv (h0 :: hs) P) : Contract1 prog w G h₀ (n + 1) (.ref f) sp := by
  intro A G' l L m own fr aux W ρ s ts vs Q X QQ EE k hr S hl1 I d h q
  obtain ⟨full, hfill, hw⟩ := hsp ts Q X h
  obtain ⟨name, params, dV, kV, doc, pm, ct, oc, an, od, osl, ho, hb, _⟩ := D.there
  obtain ⟨vs', d', hl, hbind⟩ := hb G' _ ts vs full hfill d
  obtain ⟨oL, hoL, hnf⟩ := ns_obj I
  have hlen : vs'.length = names.length := by rw [d'.length, hl]
  refine call_fn B I.F.keep ho D.code (by have := hr.depth; lia) (hbind s (B.X.keeps I.F.keep)) (fun x hx => D.loc _ (List.of_mem_zip hx).1) D.cell (fun h1 n1 k1 => ?_) D.co D.gen D.kind
  have lk : ∀ x v, (x, v) ∈ names.zip vs' → (fun x => (names.zip vs').reverse.lookup x) x = some v := fun x v hm =>
    lookup_mem (by rw [List.map_reverse, zip_keys hlen.symm]; exact (List.reverse_perm _).nodup_iff.mpr D.nd) (List.mem_reverse.mpr hm)
  have J := enter_inv (own1 := []) I hoL hnf n1 k1 (fun p hp => nomatch hp) List.nodup_nil own (fun p hp => hp) (fun p hp => nomatch hp) (slots_nodup hl.symm D.nd) (loc_args (d'.like (like_below G' L fr)) hl.symm lk)
  have hS := stack_deeper (L' := s.heap.objs.size) (f := f) (cd := cdv) (q := qual) (fr := fr) S D.kind
  have H := R (hr.deeper _) hS (k.trans (like_below G' L fr))
  subst hbody
  refine pre_sound (s := { s with heap := h1, toks := s.toks + (names.zip vs').length }) H PassesOwn.leaving pre okp hw J fun h2 tk2 m2 own2 fr2 ρ2 J2 f2 hR => ?_
  refine wpAny_execs_cons (wpAny_Try_except (wpAny_execs_cons (wpAny_Return_some (soundE H.E e0 (s := { s with heap := h2, toks := tk2 }) oke hR J2 (fun v h3 tk3 own3 fr3 ρ3 t J3 f3 z3 d3 q3 => ?_) fun e h3 tk3 own3 fr3 ρ3 C y he hX => ?_))))
  · exact q v h3 tk3 fr3 t (leave_inv I hoL J3 J3.hold).1 J3.hold (d3.like (like_below G' L fr).symm) q3
  · refine flies_note (s := { s with heap := h3, toks := tk3 }) hS.is rfl he.1 fun h4 X4 _ => ?_
    have X5 := X4.sub (led' := own ++ fr ++ ((L, oL) :: aux)) (fun p hp => by
      have hold := he.2
      simp only [List.mem_append, List.mem_cons] at hp ⊢
      rcases hp with (hp | hp) | hp | hp
      · exact .inr (.inl hp)
      · exact .inl (.inr (hold p hp))
      · exact .inr (.inr (.inl hp))
      · exact .inr (.inr (.inr hp)))
    refine catch_ (s := { s with heap := h4, toks := tk3 }) (k.trans (like_below G' L fr)) J2 X5 hX (fun p hp => ?_) fun v h5 tk5 nw t X6 d5 q5 => ?_
    · simp only [List.mem_append, List.mem_cons] at hp
      rcases hp with (hp | hp) | rfl | hp
      · exact Nat.ne_of_lt (I.look_lt p (by simp [hp]))
      · exact Nat.ne_of_lt (I.look_lt p (by simp [hp]))
      · exact Nat.ne_of_lt (Heap.lt_size hoL)
      · exact Nat.ne_of_lt (I.look_lt p (by simp [hp]))
    · have I5 := back_inv I hoL hl1 (env := envOf qual scope s.heap.objs.size f cdv) rfl (Nat.le_refl _) (fun p hp => by
        simp only [List.mem_append, List.mem_cons]
        rcases hp with hp | hp | hp | hp
        · exact .inl (.inl hp)
        · exact .inl (.inr hp)
        · exact .inr (.inr hp)
        · exact .inr (.inl hp)) X6
      exact q v h5 tk5 (nw ++ fr) t I5 (fun p hp => List.mem_append_right _ hp) ((d5.like (like_below G' L fr).symm).mono (PF.mono fun p hp => List.mem_append_left _ hp)) q5
end
end Mine
end
section
open PySem PySem.W PySem.Spec PySem.Calls PyProof.Rows
set_option Elab.async false
namespace Mine
set_option tactic.hygienic false
set_option maxRecDepth 100000
set_option linter.unusedVariables false
set_option linter.unusedSectionVars false

section
variable {prog : Program} {w : World} {A : Around} {E : Value → Shared → Prop} {s : Shared} {K : Frag} {h₀ : Heap} {env : Env} {ll : List Env} {L e C : Addr} {y : PySem.Str} {m : PySem.Str → Option Value} {led : Led}

/-- fault.why -/
theorem fault_why (B : Base prog w K h₀) (k : ExcK K C) (X : Landed h₀ ll led s.heap e C y) (hk : env.scope.kind = .function) (hloc : env.locals = L) (hn : s.heap.Ns L m) {n : PySem.Str} {p1 p2 : Pos} (hkn : env.kindOf n = some .local) (hd : (n == ("__debug__" : PySem.Str)) = false) (hm : m n = some (.ref e)) {Q : Value → Shared → Prop} (q : ∀ t tk, Q (.str y t) { s with toks := tk }) :
    wpAny (model prog w) A (eval (.Attribute (.Name n p1) "why" p2) env) Q E s := by
  obtain ⟨d, vs, es, nn, t, sl, he, he0, hdd, hd0, hw, _⟩ := X.exc
  refine Attribute_name (wpAny_Name (wpAny_loadName_local hk hkn (by rw [hloc]; exact hn) hm ?_) hd)
  have Ii : InstAt s.heap e { cls := .ref C, dict := some d, data := .fields vs, slots := sl } C (some (dictOf es nn)) := ⟨he, rfl, rfl, hdd⟩
  exact exc_get (B.X.keeps X.stays) Ii k hw fun tk => q t tk

/-- a new object behind the landing -/
theorem Landed.push (X : Landed h₀ ll led s.heap e C y) {h2 : Heap} {nw : Led} (hk : ∀ b o, s.heap.get? b = some o → h2.get? b = some o) (hn : ∀ p ∈ nw, h2.get? p.1 = some p.2 ∧ s.heap.get? p.1 = none) {h5 : Heap} (hL0 : h₀.get? L = none) (hL : (s.heap.get? L).isSome = true) (hled : ∀ p ∈ led, p.1 ≠ L) (hs : Heap.SameBut L h2 h5) : Back h₀ ll led nw h5 := by
  have nL : ∀ p ∈ nw, p.1 ≠ L := fun p hp z => by rw [← z, (hn p hp).2] at hL; cases hL
  refine ⟨fun b o hb => (hs.2 b (fun z => by rw [z, hL0] at hb; cases hb)).trans (hk _ _ (X.stays b o hb)), fun p hp => ?_, fun p hp => ⟨(hs.2 _ (nL p hp)).trans (hn p hp).1, ?_, fun hm => ?_⟩⟩
  · obtain ⟨a, sl, b⟩ := X.kept p hp
    exact ⟨fun hf => (hs.2 _ (hled p hp)).trans (hk _ _ (a hf)), sl, (hs.2 _ (hled p hp)).trans (hk _ _ b)⟩
  · cases z : h₀.get? p.1 with
    | none => rfl
    | some o => have := X.stays _ _ z; rw [(hn p hp).2] at this; cases this
  · obtain ⟨r, hr, e⟩ := List.mem_map.mp hm
    obtain ⟨_, sl, b⟩ := X.kept r hr
    rw [e, (hn p hp).2] at b
    cases b
end

theorem ns_some {h : Heap} {L : Addr} {m : PySem.Str → Option Value} (n : h.Ns L m) : (h.get? L).isSome = true := by
  obtain ⟨o, es, ep, ho, _⟩ := n
  rw [ho]; rfl

section
variable {w : World} {h₀ : Heap} (B : Base prg w (kf w.params) h₀)
theorem mro_of {K : Frag} {C : Addr} {nm q : PySem.Str} {N : Addr} {bs bm : List Value} {hdct : Bool} {sn : List PySem.Str} {sub : List Value} {ab : Bool} {col : Option Bool} {dd : Option Addr} {k0 k1 k2 k3 k5 : Option Value} {mro : List Value} (h : K.lookup C = some (excClassObj nm q C N bs bm hdct sn sub ab col dd k0 k1 k2 k3 k5 "Exception.__new__")) (e : (clsIn K C).map (·.mro) = some mro) : mro = .ref C :: bm := by
  unfold clsIn at e
  rw [h] at e
  cases e; rfl
theorem is44_56 (x : ECls) (h : (kf w.params).lookup 44 = some (x.obj 44)) : (Value.ref 44 :: x.bm).contains (.ref 56) = false := by
  rw [← mro_of h (mro := [.ref 44, .ref 31, .type "Exception", .type "BaseException", .type "object"]) (by kernel_rfl)]; decide +kernel
theorem is56_56 (x : ECls) (h : (kf w.params).lookup 56 = some (x.obj 56)) : (Value.ref 56 :: x.bm).contains (.ref 56) = true := by
  rw [← mro_of h (mro := [.ref 56, .ref 31, .type "Exception", .type "BaseException", .type "object"]) (by kernel_rfl)]; decide +kernel
theorem is44_44 (x : ECls) (h : (kf w.params).lookup 44 = some (x.obj 44)) : (Value.ref 44 :: x.bm).contains (.ref 44) = true := by
  rw [← mro_of h (mro := [.ref 44, .ref 31, .type "Exception", .type "BaseException", .type "object"]) (by kernel_rfl)]; decide +kernel

noncomputable def tryE : Stmt → Expr
  | .Try (.Return (some e) _ :: _) _ _ _ _ => e
  | .Try (.Assign _ e _ :: _) _ _ _ _ => e
  | _ => .Tuple [] 0 ⟨0, 0, 0, 0⟩
noncomputable def tryH : Stmt → List ExceptHandler
  | .Try _ h _ _ _ => h
  | _ => []
noncomputable abbrev sc29 : Scope := (fnAt 29).2.2
theorem form29 : ∃ rp x1 x2 x3 x4 x5 x6 x7 x8 x9 z1 z2 z3 z4 z5 z6 z7 z8 z9 tp, (fnAt 29).2.1 = (fnAt 29).2.1.take 8 ++ [.Try [.Return (some (tryE (stAt 29 8))) rp]
    [.ExceptHandler (some (.Name "BadPacket" x1)) (some "fault") [.Return (some (.Tuple [.Constant (.str "BadPacket") x2 x3, .Attribute (.Name "fault" x4) "why" x5] x6 x7)) x8] x9,
     .ExceptHandler (some (.Name "Misused" z1)) (some "fault") [.Return (some (.Tuple [.Constant (.str "Misused") z2 z3, .Attribute (.Name "fault" z4) "why" z5] z6 z7)) z8] z9] [] [] tp] :=
  ⟨_, _, _, _, _, _, _, _, _, _, _, _, _, _, _, _, _, _, _, _, rfl⟩

/-- return (word, fault.why) -/
theorem catch_pair {A : Around} {l : List Env} {L : Addr} {m2 : PySem.Str → Option Value} {led : Led} {s : Shared} {e C : Addr} {y a : PySem.Str} {env : Env} {E2 : Value → Shared → Prop} {QQ : Flow → Shared → Prop} {k1 k2 : Nat} {p1 p2 p3 p4 : Pos} {G' : Wo} (k : ExcK (kf w.params) C) (B : Base prg w (kf w.params) h₀) (X : Landed h₀ (env :: l) led s.heap e C y) (hk : env.scope.kind = .function) (hloc : env.locals = L) (hn : s.heap.Ns L m2) (hkn : env.kindOf "fault" = some .local) (hm : m2 "fault" = some (.ref e)) (hL0 : h₀.get? L = none) (hled : ∀ p ∈ led, p.1 ≠ L)
    (q : ∀ v h5 tk5 nw, Back h₀ (env :: l) led nw h5 → Den G' (PF h₀ nw) (.tup [.str a, .str y]) v → QQ (.ret v) { s with heap := h5, toks := tk5 }) :
    wpAny (model prg w) A (eval (.Tuple [.Constant (.str a) k1 p1, .Attribute (.Name "fault" p2) "why" p3] k2 p4) env) (fun v s4 => ∀ h5 tk5, Heap.SameBut L s4.heap h5 → QQ (.ret v) { s4 with heap := h5, toks := tk5 } ∧ ∃ m4, s4.heap.Ns L m4) E2 s := by
  refine Tuple_ (Calls.spliced_cons (wpAny_Constant_str (k := k1) (pos := p1) (Calls.spliced_cons (fault_why (s := { s with toks := s.toks + 1 }) B k X hk hloc hn hkn (by decide) hm fun t tk => Calls.spliced_nil ?_))))
  unfold newTuple
  refine wpAny_newObj_type (fun h5 tk5 hs => ?_) (by show 2 ≤ sizeLine; rw [sizeLine_eq]; decide)
  have up : ∀ b o, s.heap.get? b = some o → (s.heap.push { cls := .type "tuple", dict := none, data := .seq [Value.str a s.toks, .str y t].toArray }).get? b = some o := fun b o h => Heap.get?_push_of_some _ h
  refine ⟨q _ h5 tk5 [(s.heap.objs.size, { cls := .type "tuple", dict := none, data := .seq [Value.str a s.toks, .str y t].toArray })] (X.push up (fun p hp => ?_) hL0 (ns_some hn) hled hs) ⟨_, _, [.str a s.toks, .str y t], rfl, .inr (.head _), rfl, ⟨0, rfl⟩, ⟨_, _, rfl, ⟨_, rfl⟩, ⟨_, _, rfl, ⟨_, rfl⟩, rfl⟩⟩⟩, m2, hn.keeps up⟩
  rw [List.mem_singleton.mp hp]
  exact ⟨Heap.get?_push_size _ rfl, Heap.get?_none_of_le (Nat.le_refl _)⟩
end
end Mine
end
section
open PySem PySem.W PySem.Spec PySem.Calls PyProof.Rows
set_option Elab.async false
namespace Mine
set_option tactic.hygienic false
set_option maxRecDepth 100000

/-- a number's octets are taken -/
noncomputable def octW (n k : Int) (F : Prop) (K : List Int → Prop) : Prop := 0 ≤ k ∧ k ≤ 100 ∧ (n < 0 ∨ 256 ^ k.toNat ≤ n → F) ∧ (0 ≤ n → n < 256 ^ k.toNat → K (be n k.toNat))
theorem octW_of {n : Int} {k : Nat} {F : Prop} {K : List Int → Prop} (hk : k ≤ 100) (h1 : ¬ (0 ≤ n ∧ n < 256 ^ k) → F) (h2 : 0 ≤ n → n < 256 ^ k → K (be n k)) : octW n k F K :=
  ⟨Int.natCast_nonneg _, by lia, fun h => h1 fun q => by rw [Int.toNat_natCast] at h; lia, fun a b => by rw [Int.toNat_natCast] at b ⊢; exact h2 a b⟩
noncomputable def catW (a b : List Int) (K : List Int → Prop) : Prop := Operator.Add = Operator.Add ∧ a.length + b.length ≤ big ∧ K (a ++ b)
theorem catW_of {a b : List Int} {K : List Int → Prop} (ha : a.length ≤ 5000) (hb : b.length ≤ 5000) (h : K (a ++ b)) : catW a b K := ⟨rfl, by first | exact le_big (by assumption) | (rw [big_eq]; lia), h⟩
noncomputable abbrev S17 : Sig := sigOf exN [("check_lengths", .fn sLens), ("pad4", .fn sPad4), ("octets_of", .fn sOctets), ("total_of", .fn sTotal), ("check_of", .fn sCheck)]
noncomputable abbrev b17 : List Stmt := (fnAt 17).2.1
noncomputable abbrev fitMsg : PySem.Str := "the number does not fit its octets"
noncomputable abbrev l17 (i : Ip) (o : List Int) : Loc := [("ip", .val i.tr), ("options", .val (.bytes o))]
noncomputable abbrev l17f (i : Ip) (o f : List Int) : Loc := [("ip", .val i.tr), ("options", .val (.bytes o)), ("first", .val (.bytes f))]
noncomputable abbrev l17b (i : Ip) (o f b : List Int) : Loc := [("ip", .val i.tr), ("options", .val (.bytes o)), ("first", .val (.bytes f)), ("behind", .val (.bytes b))]
section
variable {w : World} {h₀ : Heap} (B : Base prg w (kf w.params) h₀)
theorem w17_0 (i : Ip) (Q : Fl → Loc → Prop) (X : XE) : wpB S17 ((b17.drop 0).take 1) (lip i) Q X = (ipOk i ∧ (40 < i.opts.length → X 56 "options too long" (lip i)) ∧ (i.opts.length ≤ 40 → i.odd → X 44 "no such field of an IPv4 head" (lip i)) ∧ (i.opts.length ≤ 40 → ¬ i.odd → Tr.none = .none ∧ Q .next (lip i))) := by kernel_rfl
theorem w17_1 (i : Ip) (Q : Fl → Loc → Prop) (X : XE) : wpB S17 ((b17.drop 1).take 1) (lip i) Q X = atW "options" (ipF i) fun t => sPad4 [t] (fun u => Q .next [("ip", .val i.tr), ("options", .val u)]) (fun c y => X c y (lip i)) := by kernel_rfl
theorem w17_2 (i : Ip) (o : List Int) (Q : Fl → Loc → Prop) (X : XE) : wpB S17 ((b17.drop 2).take 1) (l17 i o) Q X =
  (o.length ≤ big ∧ 0 < (4 : Int) ∧ (4 : Int).natAbs.log2 < 9000 ∧ octW (69 + (o.length : Int) / 4) 1 (X 44 fitMsg (l17 i o)) fun a => atW "dscp" (ipF i) fun t => binW .LShift t (.int 2) fun t => atW "ecn" (ipF i) fun u => binW .BitOr t u fun t =>
    sOctets [t, .int 1] (fun b => binW .Add (.bytes a) b fun ab => ipOk i ∧ octW i.total 2 (X 44 fitMsg (l17 i o)) fun c => binW .Add ab (.bytes c) fun r => Q .next [("ip", .val i.tr), ("options", .val (.bytes o)), ("first", .val r)]) (fun c y => X c y (l17 i o))) := by kernel_rfl
theorem w17_3 (i : Ip) (o f : List Int) (Q : Fl → Loc → Prop) (X : XE) : wpB S17 ((b17.drop 3).take 1) (l17f i o f) Q X =
  atW "ident" (ipF i) fun t => sOctets [t, .int 2] (fun a => atW "flags" (ipF i) fun t => binW .LShift t (.int 13) fun t => atW "place" (ipF i) fun u => binW .RShift u (.int 3) fun u => binW .BitOr t u fun t => sOctets [t, .int 2] (fun b => binW .Add a b fun ab => augW .Add (.bytes f) ab fun r =>
    Q .next [("ip", .val i.tr), ("options", .val (.bytes o)), ("first", .val r)]) (fun c y => X c y (l17f i o f))) (fun c y => X c y (l17f i o f)) := by kernel_rfl
theorem w17_4 (i : Ip) (o f : List Int) (Q : Fl → Loc → Prop) (X : XE) : wpB S17 ((b17.drop 4).take 1) (l17f i o f) Q X =
  atW "ttl" (ipF i) fun t => sOctets [t, .int 1] (fun a => atW "protocol" (ipF i) fun t => sOctets [t, .int 1] (fun b => binW .Add a b fun ab => augW .Add (.bytes f) ab fun r =>
    Q .next [("ip", .val i.tr), ("options", .val (.bytes o)), ("first", .val r)]) (fun c y => X c y (l17f i o f))) (fun c y => X c y (l17f i o f)) := by kernel_rfl
theorem w17_5 (i : Ip) (o f : List Int) (Q : Fl → Loc → Prop) (X : XE) : wpB S17 ((b17.drop 5).take 1) (l17f i o f) Q X =
  atW "source" (ipF i) fun t => sOctets [t, .int 4] (fun a => atW "target" (ipF i) fun t => sOctets [t, .int 4] (fun b => binW .Add a b fun ab => binW .Add ab (.bytes o) fun r =>
    Q .next [("ip", .val i.tr), ("options", .val (.bytes o)), ("first", .val (.bytes f)), ("behind", .val r)]) (fun c y => X c y (l17f i o f))) (fun c y => X c y (l17f i o f)) := by kernel_rfl
theorem w17_6 (i : Ip) (o f b : List Int) (Q : Fl → Loc → Prop) (X : XE) : wpB S17 (b17.drop 6) (l17b i o f b) Q X =
  catW f b fun fb => sCheck [.bytes fb] (fun t => sOctets [t, .int 2] (fun c => binW .Add (.bytes f) c fun x => binW .Add x (.bytes b) fun x => atW "data" (ipF i) fun d => binW .Add x d fun r => Q (.ret r) (l17b i o f b)) (fun c y => X c y (l17b i o f b))) (fun c y => X c y (l17b i o f b)) := by kernel_rfl

theorem fold_le {t : Int} : 0 ≤ fold t ∧ fold t ≤ 65535 := by unfold fold; split <;> lia
theorem small_bits {x : Int} {k : Int} (h : small x) (hk : k ≤ 100) : (Builtin.Int.intBits x : Int) + k ≤ 2 ^ 27 := by
  unfold small at h
  have : (2 : Int) ^ 27 = 134217728 := rfl
  lia
/-- two small parts side by side -/
theorem side {a b : Int} (k : Nat) {F : Prop} {K : Int → Prop} (hb : b < 2 ^ k) (h1 : ¬ (0 ≤ a ∧ 0 ≤ b) → F) (h2 : 0 ≤ a → 0 ≤ b → K (a * 2 ^ k + b)) (h3 : ∀ n, n < 0 → F → K n) : K (Builtin.bitOr (a * 2 ^ k) b) := by
  by_cases h : 0 ≤ a ∧ 0 ≤ b
  · rw [or_shift k h.1 h.2 hb]; exact h2 h.1 h.2
  · refine h3 _ (or_neg ?_) (h1 h)
    by_cases ha : 0 ≤ a
    · exact .inr (by lia)
    · have hp : (0 : Int) < 2 ^ k := Int.pow_pos (by decide)
      exact .inl (Int.mul_neg_of_neg_of_pos (by lia) hp)
theorem octW_neg {n : Int} {k : Nat} {F : Prop} {K : List Int → Prop} (hk : k ≤ 100) (hn : n < 0) (h : F) : octW n k F K := octW_of hk (fun _ => h) fun a _ => absurd a (by lia)

/-- octets_of(n, k) -/
theorem oct_w {n j : Int} (k : Nat) (hj : j = k) (hk : k ≤ 100) {X : XE} {l : Loc} {Q : Tr → Prop} (h1 : ¬ (0 ≤ n ∧ n < 256 ^ k) → X 44 fitMsg l) (h2 : 0 ≤ n → n < 256 ^ k → Q (.bytes (be n k))) : sOctets [.int n, .int j] Q (fun c y => X c y l) := by
  subst hj
  exact octW_of (F := X 44 fitMsg l) (K := fun o => Q (.bytes o)) hk h1 h2
theorem bin_or {a b : Int} {Q : Tr → Prop} (h : Q (.int (Builtin.bitOr a b))) : binW .BitOr (.int a) (.int b) Q := h
theorem side8 {a b i : Int} (k j : Nat) (hi : i = j) (hj : j ≤ 100) {X : XE} {l : Loc} {Q : Tr → Prop} {F : Prop} (hF : F → X 44 fitMsg l) (hb : b < 2 ^ k) (h1 : ¬ (0 ≤ a ∧ 0 ≤ b) → F) (h2 : 0 ≤ a → 0 ≤ b → octW (a * 2 ^ k + b) j (X 44 fitMsg l) fun o => Q (.bytes o)) : sOctets [.int (Builtin.bitOr (a * 2 ^ k) b), .int i] Q (fun c y => X c y l) := by
  subst hi
  exact side k (K := fun n => octW n j (X 44 fitMsg l) fun o => Q (.bytes o)) (F := F) hb h1 h2 fun n hn hf => octW_neg hj hn (hF hf)
include B in
theorem c_write : Contract prg w (g0 w.params) h₀ 5 (.ref 156) sWrite :=
  mkC (n := 4) (ex := exN) (l := [("check_lengths", .fn sLens), ("pad4", .fn sPad4), ("octets_of", .fn sOctets), ("total_of", .fn sTotal), ("check_of", .fn sCheck)]) (i := 17) (cd := 155) (name := "write_ipv4") (names := ["ip"]) (pym := .str "siftwall.ipv4" 302) B (by kernel_rfl) (by kernel_rfl) (fun vs h => by
    obtain ⟨a, rfl⟩ := len1 h
    kernel_rfl) (by kernel_rfl) exN_ok (.fn (by kernel_rfl) (by decide) (c_lens B) (.fn (by kernel_rfl) (by decide) (c_pad4 B) (.fn (by kernel_rfl) (by decide) (c_octets B) (.fn (by kernel_rfl) (by decide) (c_total B) (.fn (by kernel_rfl) (by decide) (c_check B) .nil))))) fun ts Q X h => by
    replace h := ipL_of h
    obtain ⟨I, rfl, h⟩ := h
    · obtain ⟨hk, hd, ho, hs1, hs2, hX1, hX2, hX3, hQ⟩ := h
      have h1 := hk.1
      have h2 := hk.2
      refine ⟨rfl, show wpB S17 (b17.drop 0) (lip I) _ _ from ?_⟩
      refine cut1 0 (use (w17_0 I _ _) ⟨hk, hX1, hX2, fun h40 hodd => ⟨rfl, ?_⟩⟩)
      have nf : ∀ {p : Prop}, ¬ I.fits → (¬ I.fits → p) → p := fun h k => k h
      have F := fun hn => hX3 h40 hodd hn
      have G := fun hn => hQ h40 hodd hn
      obtain ⟨q1, q2, q3, q4, q5⟩ : I.dscp ≤ 63 ∧ I.ecn ≤ 3 ∧ I.flags ≤ 7 ∧ I.place ≤ 65528 ∧ I.place % 8 = 0 := by
        unfold Ip.odd at hodd
        lia
      have hpl := pad_len I.opts
      have hp44 : (pad I.opts).length ≤ 43 := by lia
      refine cut1 1 (use (w17_1 I _ _) ⟨_, rfl, h1, ?_⟩)
      refine cut1 2 (use (w17_2 I _ _ _) ⟨by first | exact le_big (by assumption) | (rw [big_eq]; lia), by decide, by decide +kernel, octW_of (k := 1) (by decide) (fun hn => absurd (by constructor <;> lia) hn) fun _ _ => ⟨_, rfl, by decide, small_bits hs1 (by decide), _, rfl, ?_⟩⟩)
      refine bin_or ?_
      refine side8 2 1 rfl (by decide) (X := fun c y _ => X c y) (l := l17 I (pad I.opts)) (F := ¬ I.fits) F (by show I.ecn < 4; lia) (fun hn q => hn ⟨q.2.2.2.2.2.2.2.1, q.2.2.2.2.2.2.2.2⟩) fun d0 e0 => ?_
      refine octW_of (k := 1) (by decide) (fun hn => absurd ⟨by lia, by show I.dscp * 4 + I.ecn < 256; lia⟩ hn) fun _ _ => ⟨rfl, by rw [be_len, be_len, big_eq]; decide, hk, ?_⟩
      have ht : I.total = 20 + (pad I.opts).length + I.data.length := rfl
      refine octW_of (k := 2) (by decide) (fun hn => absurd ⟨by lia, by lia⟩ hn) fun _ _ => ⟨rfl, by simp only [List.length_append, be_len]; rw [big_eq]; decide, ?_⟩
      refine cut1 3 (use (w17_3 I _ _ _ _) ⟨_, rfl, oct_w 2 rfl (by decide) (X := fun c y _ => X c y) (l := []) (fun hn => F fun q => hn ⟨q.2.2.2.2.1.1, by have := q.2.2.2.2.1.2; lia⟩) fun i0 i1 => ⟨_, rfl, by decide, small_bits hs2 (by decide), _, rfl, by decide, ?_⟩⟩)
      refine bin_or ?_
      refine side8 13 2 rfl (by decide) (X := fun c y _ => X c y) (l := l17f I (pad I.opts) (be (69 + (pad I.opts).length / 4) 1 ++ be (I.dscp * 4 + I.ecn) 1 ++ be I.total 2)) (F := ¬ I.fits) F (by show I.place / 8 < 8192; lia) (fun hn q => hn ⟨q.2.2.2.2.2.1, Int.ediv_nonneg q.2.2.2.2.2.2.1 (by decide)⟩) fun f0 p0 => ?_
      have p0' : 0 ≤ I.place / 8 := p0
      refine octW_of (k := 2) (by decide) (fun hn => absurd ⟨by show 0 ≤ I.flags * 8192 + I.place / 8; lia, by show I.flags * 8192 + I.place / 8 < 65536; lia⟩ hn) fun _ _ => ⟨rfl, by simp only [List.length_append, be_len]; rw [big_eq]; decide, rfl, by simp only [List.length_append, be_len]; rw [big_eq]; decide, ?_⟩
      refine cut1 4 (use (w17_4 I _ _ _ _) ⟨_, rfl, oct_w 1 rfl (by decide) (X := fun c y _ => X c y) (l := []) (fun hn => F fun q => hn ⟨q.2.2.2.1.1, by have := q.2.2.2.1.2; lia⟩) fun t0 t1 => ⟨_, rfl, oct_w 1 rfl (by decide) (X := fun c y _ => X c y) (l := []) (fun hn => F fun q => hn ⟨q.2.2.1.1, by have := q.2.2.1.2; lia⟩) fun r0 r1 => ⟨rfl, by simp only [List.length_append, be_len]; rw [big_eq]; decide, rfl, by simp only [List.length_append, be_len]; rw [big_eq]; decide, ?_⟩⟩⟩)
      refine cut1 5 (use (w17_5 I _ _ _ _) ⟨_, rfl, oct_w 4 rfl (by decide) (X := fun c y _ => X c y) (l := []) (fun hn => F fun q => hn q.1) fun s0 s1 => ⟨_, rfl, oct_w 4 rfl (by decide) (X := fun c y _ => X c y) (l := []) (fun hn => F fun q => hn q.2.1) fun g0' g1 => ⟨rfl, by simp only [List.length_append, be_len]; rw [big_eq]; decide, rfl, by simp only [List.length_append, be_len]; rw [big_eq]; lia, ?_⟩⟩⟩)
      have hfo : oct I.first := oct_append.mpr ⟨oct_append.mpr ⟨oct_append.mpr ⟨oct_append.mpr ⟨be_oct _ _, be_oct _ _⟩, be_oct _ _⟩, oct_append.mpr ⟨be_oct _ _, be_oct _ _⟩⟩, oct_append.mpr ⟨be_oct _ _, be_oct _ _⟩⟩
      have hbo : oct I.behind := oct_append.mpr ⟨oct_append.mpr ⟨be_oct _ _, be_oct _ _⟩, pad_oct ho⟩
      have hfl : I.first.length = 10 := by unfold Ip.first; simp only [List.length_append, be_len]
      have hbl : I.behind.length = 8 + (pad I.opts).length := by unfold Ip.behind; simp only [List.length_append, be_len]
      have hp4 : (pad I.opts).length % 2 = 0 := by rw [hpl]; lia
      have hfit : I.fits := ⟨⟨s0, s1⟩, ⟨g0', g1⟩, ⟨r0, r1⟩, ⟨t0, t1⟩, ⟨i0, i1⟩, f0, by have := p0'; lia, d0, e0⟩
      have hq := G hfit
      have hfd := @fold_le (num (I.first ++ I.behind))
      refine use (w17_6 I (pad I.opts) I.first I.behind _ _) (catW_of (by lia) (by lia) ⟨oct_append.mpr ⟨hfo, hbo⟩, by rw [List.length_append]; lia, by rw [List.length_append]; lia, oct_w 2 rfl (by decide) (X := fun c y _ => X c y) (l := []) (fun hn => absurd ⟨by lia, by lia⟩ hn) fun _ _ => ?_⟩)
      refine ⟨rfl, by rw [be_len, hfl, big_eq]; decide, rfl, by rw [List.length_append, be_len, hfl, hbl, big_eq]; lia, _, rfl, rfl, by simp only [List.length_append, be_len]; rw [hfl, hbl, big_eq]; lia, hq⟩
end
end Mine
end
section
open PySem PySem.W PySem.Spec PySem.Calls PyProof.Rows
set_option Elab.async false
namespace Mine
set_option tactic.hygienic false
set_option maxRecDepth 100000

/-- what look4 answers -/
noncomputable def lookT (ks : List Int) : Tr :=
  if ks.length < 20 ∨ dig ks 0 / 16 ≠ 4 then .none
  else if dig ks 0 % 16 * 4 < 20 ∨ (ks.length : Int) < dig ks 0 % 16 * 4 then .none
  else .tup [.int (dig ks 9), .int (dig ks 0 % 16 * 4), .int ((256 * dig ks 6 + dig ks 7) % 8192 * 8), .bool ((256 * dig ks 6 + dig ks 7) / 8192 % 2 == 1)]
noncomputable def sLook : Spec := fun ts Q _ => oneB ts fun ks => oct ks ∧ ks.length ≤ 1000 ∧ Q (lookT ks)
noncomputable def sDueLook : Spec := fun ts Q _ => oneL ts fun xs => ∃ ks : List Int, xs = ks.map Tr.int ∧ oct ks ∧ ks.length ≤ 1000 ∧ Q (lookT ks)
/-- an item of a list of ints -/
noncomputable def itT (ks : List Int) (k : Int) (K : Tr → Prop) : Prop := 0 ≤ k ∧ k < big ∧ ∃ x, (ks.map Tr.int)[k.toNat]? = some x ∧ K x
theorem itT_of {ks : List Int} (k : Nat) {K : Tr → Prop} (hl : ks.length ≤ 1000) (hk : k < ks.length) (h : K (.int (dig ks k))) : itT ks k K :=
  ⟨Int.natCast_nonneg _, by rw [big_eq]; omega, _, by rw [Int.toNat_natCast, List.getElem?_map, dig_get hk]; rfl, h⟩

noncomputable abbrev numbersT (i : Ip) : Tr := .list [.int i.src, .int i.tgt, .int i.pro, .int i.ttl, .int i.ident, .int i.flags, .int i.place, .int i.dscp, .int i.ecn]
noncomputable abbrev saidT (i : Ip) : Tr := .list [numbersT i, .bytes i.opts, .bytes i.data]
/-- what _law_due_fields answers -/
noncomputable def dueFT (ks : List Int) : Tr := match headR ks with
  | .error e => .tup [.str e, .list []]
  | .ok (h, t) => .tup [.str "", saidT (readIp ks h t)]
noncomputable def sDueFields : Spec := fun ts Q _ => oneL ts fun xs => ∃ ks : List Int, xs = ks.map Tr.int ∧ oct ks ∧ ks.length ≤ 1000 ∧ Q (dueFT ks)
/-- a head by one number -/
noncomputable def wholeOf (src tgt pro ttl ident flags place dscp ecn : Int) (o : List Int) (total : Int) : Int :=
  (((((((((64 + 5 + (o.length : Int) / 4) * 256 + 4 * dscp + ecn) * 65536 + total) * 65536 + ident) * 65536 + 8192 * flags + place / 8) * 256 + ttl) * 256 + pro) * 65536 * 2 ^ 32 + src) * 2 ^ 32 + tgt) * 256 ^ o.length + num o
noncomputable def headL (src tgt pro ttl ident flags place dscp ecn : Int) (o : List Int) (total : Int) : List Int :=
  be (wholeOf src tgt pro ttl ident flags place dscp ecn o total + (65534 - (wholeOf src tgt pro ttl ident flags place dscp ecn o total - 1) % 65535) * 256 ^ (8 + o.length)) (20 + o.length)
noncomputable def fieldOk (x : Int) : Prop := Builtin.Int.intBits x ≤ 2097152
end Mine
end
section
open PySem PySem.W PySem.Spec PySem.Calls PyProof.Rows
set_option Elab.async false
namespace Mine
set_option tactic.hygienic false
set_option maxRecDepth 100000
section
variable {w : World} {h₀ : Heap} (B : Base prg w (kf w.params) h₀)
noncomputable abbrev S20 : Sig := sigOf exN [("number_of", .fn sNumber)]
noncomputable abbrev b20 : List Stmt := (fnAt 20).2.1
noncomputable abbrev l20 (ks : List Int) : Loc := [("data", .val (.bytes ks))]
noncomputable abbrev l20h (ks : List Int) (h : Int) : Loc := [("data", .val (.bytes ks)), ("off", .val (.int h))]
noncomputable abbrev l20w (ks : List Int) (h u : Int) : Loc := [("data", .val (.bytes ks)), ("off", .val (.int h)), ("word", .val (.int u))]
theorem w20_0 (ks : List Int) (Q : Fl → Loc → Prop) (X : XE) : wpB S20 ((b20.drop 0).take 1) (l20 ks) Q X =
  (ks.length ≤ big ∧ orW (decide ((ks.length : Int) < 20)) (itB ks 0 fun x => 0 ≤ (4 : Int) ∧ orW (x / 16 != 4) (ifW false (Q (.ret .none) (l20 ks)) (Q .next (l20 ks))) (fun c => ifW c (Q (.ret .none) (l20 ks)) (Q .next (l20 ks)))) (fun c => ifW c (Q (.ret .none) (l20 ks)) (Q .next (l20 ks)))) := by kernel_rfl
theorem w20_1 (ks : List Int) (Q : Fl → Loc → Prop) (X : XE) : wpB S20 ((b20.drop 1).take 1) (l20 ks) Q X = itB ks 0 fun x => IntMulOk (Builtin.bitAnd x 15) 4 ∧ Q .next (l20h ks (Builtin.bitAnd x 15 * 4)) := by kernel_rfl
theorem w20_2 (ks : List Int) (h : Int) (Q : Fl → Loc → Prop) (X : XE) : wpB S20 ((b20.drop 2).take 1) (l20h ks h) Q X = orW (decide (h < 20)) (ks.length ≤ big ∧ orW (decide ((ks.length : Int) < h)) (ifW false (Q (.ret .none) (l20h ks h)) (Q .next (l20h ks h))) (fun c => ifW c (Q (.ret .none) (l20h ks h)) (Q .next (l20h ks h)))) (fun c => ifW c (Q (.ret .none) (l20h ks h)) (Q .next (l20h ks h))) := by kernel_rfl
theorem w20_3 (ks : List Int) (h : Int) (Q : Fl → Loc → Prop) (X : XE) : wpB S20 ((b20.drop 3).take 1) (l20h ks h) Q X = slI ks 6 8 fun a => oct a ∧ a.length ≤ 1000 ∧ Q .next (l20w ks h (num a)) := by kernel_rfl
theorem w20_4 (ks : List Int) (h u : Int) (Q : Fl → Loc → Prop) (X : XE) : wpB S20 (b20.drop 4) (l20w ks h u) Q X = itB ks 9 fun x => IntMulOk (Builtin.bitAnd u 8191) 8 ∧ Q (.ret (.tup [.int x, .int h, .int (Builtin.bitAnd u 8191 * 8), .bool (Builtin.bitAnd u 8192 != 0)])) (l20w ks h u) := by kernel_rfl
/-- or, the left side known -/
theorem or_cut {c : Bool} {p a b : Prop} (h1 : c = true → a) (h2 : c = false → p) : orW c p (fun c => ifW c a b) := or_step h1 h2
theorem and_15 {x : Int} (h : 0 ≤ x) : Builtin.bitAnd x 15 = x % 16 := by
  have := and_mask 4 h
  rwa [show ((2 : Int) ^ 4 - 1) = 15 from rfl, show ((2 : Int) ^ 4) = 16 from rfl] at this
include B in
theorem c_look : Contract prg w (g0 w.params) h₀ 2 (.ref 177) sLook :=
  mkC (n := 1) (ex := exN) (l := [("number_of", .fn sNumber)]) (i := 20) (cd := 176) (name := "look4") (names := ["data"]) (pym := .str "siftwall.ipv4" 302) B (by kernel_rfl) (by kernel_rfl) (fun vs h => by
    obtain ⟨a, rfl⟩ := len1 h
    kernel_rfl) (by kernel_rfl) exN_ok (.fn (by kernel_rfl) (by decide) (c_number B) .nil) fun ts Q X h => by
    replace h := oneB_of h
    obtain ⟨ks, rfl, h⟩ := h
    · obtain ⟨ho, hl, hq⟩ := h
      have hz : ks.length ≤ big := by first | exact le_big (by assumption) | (rw [big_eq]; lia)
      refine ⟨rfl, show wpB S20 (b20.drop 0) (l20 ks) _ _ from cut1 0 (use (w20_0 ks _ _) ⟨hz, or_cut (fun e => ?_) fun e => ?_⟩)⟩
      · have e' := of_decide_eq_true e
        unfold lookT at hq
        rw [if_pos (.inl (by lia))] at hq
        exact hq
      have h20 := of_decide_eq_false e
      refine itB_of 0 hl (by lia) ⟨by decide, or_last (fun e => ?_) fun e => ?_⟩
      · unfold lookT at hq
        rw [if_pos (.inr (bne_iff_ne.mp e))] at hq
        exact hq
      have hv : dig ks 0 / 16 = 4 := by simpa using e
      unfold lookT at hq
      rw [if_neg (fun q => q.elim (by lia) fun q => q hv)] at hq
      refine cut1 1 (use (w20_1 ks _ _) (itB_of 0 hl (by lia) ⟨IntMulOk.of_right (by decide +kernel), ?_⟩))
      rw [and_15 (dig_oct ho 0).1]
      refine cut1 2 (use (w20_2 ks _ _ _) (or_if (fun _ => hz) (fun e => ?_) fun e => ?_))
      · rw [if_pos (or_true.mp e)] at hq
        exact hq
      rw [if_neg (or_false.mp e)] at hq
      refine cut1 3 (use (w20_3 ks _ _ _) (slI_of (by decide) (by decide) hl ⟨sl_oct ho _ _, by show (sl ks 6 8).length ≤ _; rw [sl_len (by lia)]; decide, ?_⟩))
      show wpB S20 _ (l20w ks _ (num (sl ks 6 (6 + 2)))) _ _
      rw [num_two (by lia)]
      have g6 := dig_oct ho 6
      have g7 := dig_oct ho 7
      refine use (w20_4 ks _ _ _ _) (itB_of 9 hl (by lia) ⟨IntMulOk.of_right (by decide +kernel), ?_⟩)
      have hb := and_bit 13 (x := 256 * dig ks 6 + dig ks (6 + 1)) (by show 0 ≤ 256 * dig ks 6 + dig ks 7; lia)
      rw [show ((2 : Int) ^ 13) = 8192 from rfl] at hb
      rw [and_8191 (by show 0 ≤ 256 * dig ks 6 + dig ks 7; lia), hb]
      exact hq

noncomputable abbrev b32 : List Stmt := (fnAt 32).2.1
noncomputable abbrev l32 (ks : List Int) : Loc := [("octets", .val (iL ks))]
noncomputable abbrev l32h (ks : List Int) (h : Int) : Loc := [("octets", .val (iL ks)), ("head", .val (.int h))]
theorem w32_0 (ks : List Int) (Q : Fl → Loc → Prop) (X : XE) : wpB S0 ((b32.drop 0).take 1) (l32 ks) Q X =
  ((ks.map Tr.int).length ≤ big ∧ orW (decide (((ks.map Tr.int).length : Int) < 20)) (itT ks 0 fun x => binW .FloorDiv x (.int 16) fun y => cmpW .NotEq y (.int 4) fun c => orW c (ifW false (Q (.ret .none) (l32 ks)) (Q .next (l32 ks))) (fun c => ifW c (Q (.ret .none) (l32 ks)) (Q .next (l32 ks)))) (fun c => ifW c (Q (.ret .none) (l32 ks)) (Q .next (l32 ks)))) := by kernel_rfl
theorem w32_1 (ks : List Int) (Q : Fl → Loc → Prop) (X : XE) : wpB S0 ((b32.drop 1).take 1) (l32 ks) Q X = itT ks 0 fun x => binW .Mod x (.int 16) fun y => binW .Mult (.int 4) y fun z => Q .next [("octets", .val (iL ks)), ("head", .val z)] := by kernel_rfl
theorem w32_2 (ks : List Int) (h : Int) (Q : Fl → Loc → Prop) (X : XE) : wpB S0 ((b32.drop 2).take 1) (l32h ks h) Q X = orW (decide (h < 20)) ((ks.map Tr.int).length ≤ big ∧ orW (decide (((ks.map Tr.int).length : Int) < h)) (ifW false (Q (.ret .none) (l32h ks h)) (Q .next (l32h ks h))) (fun c => ifW c (Q (.ret .none) (l32h ks h)) (Q .next (l32h ks h)))) (fun c => ifW c (Q (.ret .none) (l32h ks h)) (Q .next (l32h ks h))) := by kernel_rfl
theorem w32_3 (ks : List Int) (h : Int) (Q : Fl → Loc → Prop) (X : XE) : wpB S0 (b32.drop 3) (l32h ks h) Q X = itT ks 9 fun x => itT ks 6 fun y => binW .Mod y (.int 32) fun y => binW .Mult y (.int 2048) fun y => itT ks 7 fun z => binW .Mult z (.int 8) fun z => binW .Add y z fun p => itT ks 6 fun u => binW .FloorDiv u (.int 32) fun u => binW .Mod u (.int 2) fun u => cmpW .Eq u (.int 1) fun c =>
  Q (.ret (.tup [x, .int h, p, .bool c])) (l32h ks h) := by kernel_rfl
include B in
theorem c_dueLook : Contract prg w (g0 w.params) h₀ 1 (.ref 252) sDueLook :=
  mkC (n := 0) (ex := exN) (l := []) (i := 32) (cd := 251) (name := "_law_due_look") (names := ["octets"]) (pym := .str "law_pf0339_01" 418) B (by kernel_rfl) (by kernel_rfl) (fun vs h => by
    obtain ⟨a, rfl⟩ := len1 h
    kernel_rfl) (by kernel_rfl) exN_ok .nil fun ts Q X h => by
    replace h := oneL_of h
    obtain ⟨xs, rfl, h⟩ := h
    · obtain ⟨ks, rfl, ho, hl, hq⟩ := h
      have hm : (ks.map Tr.int).length = ks.length := List.length_map _
      have hz : (ks.map Tr.int).length ≤ big := by first | exact le_big (by assumption) | (rw [big_eq]; lia)
      refine ⟨rfl, show wpB S0 (b32.drop 0) (l32 ks) _ _ from cut1 0 (use (w32_0 ks _ _) ⟨hz, or_cut (fun e => ?_) fun e => ?_⟩)⟩
      · have e' := of_decide_eq_true e
        unfold lookT at hq
        rw [if_pos (.inl (by lia))] at hq
        exact hq
      have h20 := of_decide_eq_false e
      refine itT_of 0 hl (by lia) ⟨by decide, by decide +kernel, or_last (fun e => ?_) fun e => ?_⟩
      · unfold lookT at hq
        rw [if_pos (.inr (bne_iff_ne.mp e))] at hq
        exact hq
      have hv : dig ks 0 / 16 = 4 := by simpa using e
      unfold lookT at hq
      rw [if_neg (fun q => q.elim (by lia) fun q => q hv)] at hq
      refine cut1 1 (use (w32_1 ks _ _) (itT_of 0 hl (by lia) ⟨by decide, IntMulOk.of_left (by decide +kernel), ?_⟩))
      rw [Int.mul_comm 4]
      refine cut1 2 (use (w32_2 ks _ _ _) (or_if (fun _ => hz) (fun e => ?_) fun e => ?_))
      · have := or_true.mp e
        rw [hm] at this
        rw [if_pos this] at hq
        exact hq
      have := or_false.mp e
      rw [hm] at this
      rw [if_neg this] at hq
      have g6 := dig_oct ho 6
      have g7 := dig_oct ho 7
      refine use (w32_3 ks _ _ _) (itT_of 9 hl (by lia) (itT_of 6 hl (by lia) ⟨by decide, IntMulOk.of_right (by decide +kernel), itT_of 7 hl (by lia) ⟨IntMulOk.of_right (by decide +kernel), itT_of 6 hl (by lia) ⟨by decide, by decide +kernel, by decide, ?_⟩⟩⟩))
      have e1 : dig ks 6 % 32 * 2048 + dig ks 7 * 8 = (256 * dig ks 6 + dig ks 7) % 8192 * 8 := by lia
      have e2 : dig ks 6 / 32 % 2 = (256 * dig ks 6 + dig ks 7) / 8192 % 2 := by lia
      show Q (.tup [.int (dig ks 9), .int (dig ks 0 % 16 * 4), .int (dig ks 6 % 32 * 2048 + dig ks 7 * 8), .bool (dig ks 6 / 32 % 2 == 1)])
      rw [e1, e2]
      exact hq
end
end Mine
end
section
open PySem PySem.W PySem.Spec PySem.Calls PyProof.Rows
set_option Elab.async false
namespace Mine
set_option tactic.hygienic false
set_option maxRecDepth 100000
/-- a chained comparison goes on -/
noncomputable def chW (c : Bool) (rest f : Prop) : Prop := (c = true → rest) ∧ (c = false → f)
/-- a // 2 ** e -/
noncomputable def fdW (a e : Int) (K : Tr → Prop) : Prop := binW .Pow (.int 2) (.int e) fun p => binW .FloorDiv (.int a) p K
theorem log_pow (n : Nat) : ((2 : Int) ^ n).natAbs.log2 = n := by
  rw [Int.natAbs_pow]
  exact Nat.log2_two_pow
theorem fdW_of {a : Int} (e : Nat) {K : Tr → Prop} (he : e ≤ 1000) (h : K (.int (a / 2 ^ e))) : fdW a e K := by
  refine ⟨Int.natCast_nonneg _, ?_, ?_, ?_, ?_⟩
  · have : Builtin.Int.intBits 2 = 2 := by decide +kernel
    rw [this]
    have : (2 : Int) ^ 27 = 134217728 := rfl
    lia
  · rw [Int.toNat_natCast]; exact Int.pow_pos (by decide)
  · rw [Int.toNat_natCast, log_pow]; lia
  · rw [Int.toNat_natCast]; exact h
/-- x % 2 ** 32 -/
noncomputable def mdW (x : Tr) (K : Tr → Prop) : Prop := binW .Pow (.int 2) (.int 32) fun p => binW .Mod x p K
theorem mdW_of {a : Int} {K : Tr → Prop} (h : K (.int (a % 2 ^ 32))) : mdW (.int a) K := ⟨by decide, by decide +kernel, by decide, h⟩
theorem bits256 : Builtin.Int.intBits 256 = 9 := by decide +kernel

theorem num_sl {ks : List Int} (ho : oct ks) {a b n : Nat} (hab : a ≤ b) (hbn : b ≤ n) (hn : n ≤ ks.length) : num (ks.take n) / 256 ^ (n - b) % 256 ^ (b - a) = num (sl ks a b) := by
  have e1 : ks.take b = ks.take a ++ sl ks a b := by
    unfold sl
    have : ks.take a = (ks.take b).take a := by rw [List.take_take, Nat.min_eq_left hab]
    rw [this, List.take_append_drop]
  have e2 : ks.take n = ks.take b ++ sl ks b n := by
    unfold sl
    have : ks.take b = (ks.take n).take b := by rw [List.take_take, Nat.min_eq_left hbn]
    rw [this, List.take_append_drop]
  have l1 : (sl ks a b).length = b - a := sl_len (by lia)
  have l2 : (sl ks b n).length = n - b := sl_len hn
  have b1 := num_bound (sl_oct ho a b)
  have b2 := num_bound (sl_oct ho b n)
  rw [l1] at b1
  rw [l2] at b2
  rw [e2, num_append, l2, Int.add_comm, Int.add_mul_ediv_right _ _ (Int.ne_of_gt (pow256_pos _)), Int.ediv_eq_zero_of_lt b2.1 b2.2, Int.zero_add, e1, num_append, l1, Int.add_comm, Int.add_mul_emod_self_right]
  exact Int.emod_eq_of_lt b1.1 b1.2
theorem num_above {ks : List Int} (ho : oct ks) {h : Nat} (h1 : 20 ≤ h) (h2 : h ≤ ks.length) : num (ks.take h) / 256 ^ (h - 20) = num (ks.take 20) := by
  have e2 : ks.take h = ks.take 20 ++ sl ks 20 h := by
    unfold sl
    have : ks.take 20 = (ks.take h).take 20 := by rw [List.take_take, Nat.min_eq_left h1]
    rw [this, List.take_append_drop]
  have l2 : (sl ks 20 h).length = h - 20 := sl_len h2
  have b2 := num_bound (sl_oct ho 20 h)
  rw [l2] at b2
  rw [e2, num_append, l2, Int.add_comm, Int.add_mul_ediv_right _ _ (Int.ne_of_gt (pow256_pos _)), Int.ediv_eq_zero_of_lt b2.1 b2.2, Int.zero_add]
theorem num_one {ks : List Int} {k : Nat} (h : k + 1 ≤ ks.length) : num (sl ks k (k + 1)) = dig ks k := by
  rw [sl_succ (Nat.le_refl _) (by lia), sl_self]; unfold num; simp

section
variable {w : World} {h₀ : Heap} (B : Base prg w (kf w.params) h₀)
noncomputable abbrev S30 : Sig := sigOf exN [("_law_whole", .fn sWhole)]
noncomputable abbrev b30 : List Stmt := (fnAt 30).2.1
noncomputable abbrev l30t (ks : List Int) (h t : Int) : Loc := [("octets", .val (iL ks)), ("head", .val (.int h)), ("total", .val (.int t))]
noncomputable abbrev l30w (ks : List Int) (h t u : Int) : Loc := [("octets", .val (iL ks)), ("head", .val (.int h)), ("total", .val (.int t)), ("whole", .val (.int u))]
noncomputable abbrev l30a (ks : List Int) (h t u a : Int) : Loc := [("octets", .val (iL ks)), ("head", .val (.int h)), ("total", .val (.int t)), ("whole", .val (.int u)), ("above", .val (.int a))]
noncomputable abbrev l30n (ks : List Int) (h t u a : Int) (ns : List Tr) : Loc := [("octets", .val (iL ks)), ("head", .val (.int h)), ("total", .val (.int t)), ("whole", .val (.int u)), ("above", .val (.int a)), ("numbers", .mu (.list ns))]
noncomputable abbrev l30v (ks : List Int) (h t u a : Int) (ns : List Tr) : Loc := [("octets", .val (iL ks)), ("head", .val (.int h)), ("total", .val (.int t)), ("whole", .val (.int u)), ("above", .val (.int a)), ("numbers", .val (.list ns))]
noncomputable abbrev errT (y : PySem.Str) : Tr := .tup [.str y, .list []]
theorem w30_0 (ks : List Int) (Q : Fl → Loc → Prop) (X : XE) : wpB S30 ((b30.drop 0).take 1) (l32 ks) Q X = ((ks.map Tr.int).length ≤ big ∧ ifW (decide (((ks.map Tr.int).length : Int) < 20)) (Q (.ret (errT "truncated head")) (l32 ks)) (Q .next (l32 ks))) := by kernel_rfl
theorem w30_1 (ks : List Int) (Q : Fl → Loc → Prop) (X : XE) : wpB S30 ((b30.drop 1).take 1) (l32 ks) Q X = itT ks 0 fun x => binW .FloorDiv x (.int 16) fun y => cmpW .NotEq y (.int 4) fun c => ifW c (Q (.ret (errT "bad version")) (l32 ks)) (Q .next (l32 ks)) := by kernel_rfl
theorem w30_2 (ks : List Int) (Q : Fl → Loc → Prop) (X : XE) : wpB S30 ((b30.drop 2).take 1) (l32 ks) Q X = itT ks 0 fun x => binW .Mod x (.int 16) fun y => binW .Mult (.int 4) y fun z => Q .next [("octets", .val (iL ks)), ("head", .val z)] := by kernel_rfl
theorem w30_3 (ks : List Int) (h : Int) (Q : Fl → Loc → Prop) (X : XE) : wpB S30 ((b30.drop 3).take 1) (l32h ks h) Q X = chW (decide (20 ≤ h)) ((ks.map Tr.int).length ≤ big ∧ ifW (!decide (h ≤ ((ks.map Tr.int).length : Int))) (Q (.ret (errT "bad head length")) (l32h ks h)) (Q .next (l32h ks h))) (ifW (!false) (Q (.ret (errT "bad head length")) (l32h ks h)) (Q .next (l32h ks h))) := by kernel_rfl
theorem w30_4 (ks : List Int) (h : Int) (Q : Fl → Loc → Prop) (X : XE) : wpB S30 ((b30.drop 4).take 1) (l32h ks h) Q X = itT ks 2 fun x => binW .Mult (.int 256) x fun x => itT ks 3 fun y => binW .Add x y fun z => Q .next [("octets", .val (iL ks)), ("head", .val (.int h)), ("total", .val z)] := by kernel_rfl
theorem w30_5 (ks : List Int) (h t : Int) (Q : Fl → Loc → Prop) (X : XE) : wpB S30 ((b30.drop 5).take 1) (l30t ks h t) Q X = chW (decide (h ≤ t)) ((ks.map Tr.int).length ≤ big ∧ ifW (!decide (t ≤ ((ks.map Tr.int).length : Int))) (Q (.ret (errT "bad total length")) (l30t ks h t)) (Q .next (l30t ks h t))) (ifW (!false) (Q (.ret (errT "bad total length")) (l30t ks h t)) (Q .next (l30t ks h t))) := by kernel_rfl
theorem w30_6 (ks : List Int) (h t : Int) (Q : Fl → Loc → Prop) (X : XE) : wpB S30 ((b30.drop 6).take 1) (l30t ks h t) Q X = (True ∧ 0 ≤ h ∧ (ks.map Tr.int).length ≤ big ∧ ∃ ns, (ks.map Tr.int).take h.toNat = ns.map Tr.int ∧ oct ns ∧ ns.length ≤ 1000 ∧ Q .next (l30w ks h t (num ns))) := by kernel_rfl
theorem w30_7 (ks : List Int) (h t u : Int) (Q : Fl → Loc → Prop) (X : XE) : wpB S30 ((b30.drop 7).take 1) (l30w ks h t u) Q X = (0 < (65535 : Int) ∧ ifW (u % 65535 != 0) (Q (.ret (errT "bad head sum")) (l30w ks h t u)) (Q .next (l30w ks h t u))) := by kernel_rfl
theorem w30_8 (ks : List Int) (h t u : Int) (Q : Fl → Loc → Prop) (X : XE) : wpB S30 ((b30.drop 8).take 1) (l30w ks h t u) Q X = (0 ≤ h - 20 ∧ (Builtin.Int.intBits 256 : Int) * (h - 20) ≤ 2 ^ 27 ∧ 0 < (256 : Int) ^ (h - 20).toNat ∧ ((256 : Int) ^ (h - 20).toNat).natAbs.log2 < 9000 ∧ Q .next (l30a ks h t u (u / 256 ^ (h - 20).toNat))) := by kernel_rfl
theorem w30_9 (ks : List Int) (h t u a : Int) (Q : Fl → Loc → Prop) (X : XE) : wpB S30 ((b30.drop 9).take 1) (l30a ks h t u a) Q X = fdW a 32 fun x => mdW x fun n1 => mdW (.int a) fun n2 => fdW a 80 fun x => binW .Mod x (.int 256) fun n3 => fdW a 88 fun x => binW .Mod x (.int 256) fun n4 => Q .next (l30n ks h t u a [n1, n2, n3, n4]) := by kernel_rfl
theorem w30_10 (ks : List Int) (h t u a : Int) (n1 n2 n3 n4 : Tr) (Q : Fl → Loc → Prop) (X : XE) : wpB S30 ((b30.drop 10).take 1) (l30n ks h t u a [n1, n2, n3, n4]) Q X = fdW a 112 fun x => binW .Mod x (.int 65536) fun n5 => fdW a 109 fun x => binW .Mod x (.int 8) fun n6 => fdW a 96 fun x => binW .Mod x (.int 8192) fun x => binW .Mult x (.int 8) fun n7 => 4 + 3 ≤ big ∧ Q .next (l30n ks h t u a [n1, n2, n3, n4, n5, n6, n7]) := by kernel_rfl
theorem w30_11 (ks : List Int) (h t u a : Int) (n1 n2 n3 n4 n5 n6 n7 : Tr) (Q : Fl → Loc → Prop) (X : XE) : wpB S30 ((b30.drop 11).take 1) (l30n ks h t u a [n1, n2, n3, n4, n5, n6, n7]) Q X = fdW a 146 fun x => binW .Mod x (.int 64) fun n8 => fdW a 144 fun x => binW .Mod x (.int 4) fun n9 => 7 + 2 ≤ big ∧ Q .next (l30n ks h t u a [n1, n2, n3, n4, n5, n6, n7, n8, n9]) := by kernel_rfl
/-- bytes(xs[a:b]) -/
noncomputable def bsW (ks : List Int) (a b : Int) (K : List Int → Prop) : Prop := 0 ≤ a ∧ 0 ≤ b ∧ (ks.map Tr.int).length ≤ big ∧ ∃ ns : List Int, sl' (ks.map Tr.int) a.toNat b.toNat = ns.map Tr.int ∧ (∀ n ∈ ns, 0 ≤ n ∧ n < 256) ∧ ns.length ≤ big ∧ K ns
where sl' (xs : List Tr) (a b : Nat) : List Tr := (xs.take b).drop a
theorem bsW_of {ks : List Int} {a b : Int} {K : List Int → Prop} (ho : oct ks) (hl : ks.length ≤ 1000) (ha : 0 ≤ a) (hb : 0 ≤ b) (h : K (sl ks a.toNat b.toNat)) : bsW ks a b K :=
  ⟨ha, hb, by first | exact le_bigm (by assumption) | (rw [List.length_map, big_eq]; lia), _, by unfold sl bsW.sl'; rw [List.map_drop, List.map_take], sl_oct ho _ _, by unfold sl; rw [List.length_drop, List.length_take, big_eq]; lia, h⟩
theorem w30_12 (ks : List Int) (h t u a : Int) (ns : List Tr) (Q : Fl → Loc → Prop) (X : XE) : wpB S30 (b30.drop 12) (l30n ks h t u a ns) Q X = bsW ks 20 h fun x => bsW ks h t fun y => Q (.ret (.tup [.str "", .list [.list ns, .bytes x, .bytes y]])) (l30v ks h t u a ns) := by kernel_rfl

theorem fold_ff {t : Int} (h : 0 < t) : fold t = 65535 ↔ t % 65535 = 0 := by
  unfold fold
  rw [if_neg (by lia)]
  lia
theorem num_pos {ks : List Int} (ho : oct ks) (hl : 0 < ks.length) (h : 0 < dig ks 0) {n : Nat} (hn : 0 < n) : 0 < num (ks.take n) := by
  cases ks with
  | nil => cases hl
  | cons k r =>
    have : (k :: r).take n = k :: r.take (n - 1) := by cases n with
      | zero => cases hn
      | succ n => rfl
    rw [this, num_cons]
    have hk : dig (k :: r) 0 = k := rfl
    rw [hk] at h
    have hp := pow256_pos (r.take (n - 1)).length
    have h2 : 0 < k * 256 ^ (r.take (n - 1)).length := Int.mul_pos h hp
    have h3 := (num_bound (oct_take (oct_cons.mp ho).2 (n - 1))).1
    lia
theorem numbers_eq {ks : List Int} (ho : oct ks) (hl : 20 ≤ ks.length) (h t : Int) :
    numbersT (readIp ks h t) = .list [.int (num (ks.take 20) / 2 ^ 32 % 2 ^ 32), .int (num (ks.take 20) % 2 ^ 32), .int (num (ks.take 20) / 2 ^ 80 % 256), .int (num (ks.take 20) / 2 ^ 88 % 256), .int (num (ks.take 20) / 2 ^ 112 % 65536), .int (num (ks.take 20) / 2 ^ 109 % 8), .int (num (ks.take 20) / 2 ^ 96 % 8192 * 8), .int (num (ks.take 20) / 2 ^ 146 % 64), .int (num (ks.take 20) / 2 ^ 144 % 4)] := by
  have e1 := num_sl ho (a := 12) (b := 16) (n := 20) (by decide) (by decide) hl
  have e2 := num_sl ho (a := 16) (b := 20) (n := 20) (by decide) (by decide) hl
  have e3 := num_sl ho (a := 9) (b := 9 + 1) (n := 20) (by decide) (by decide) hl
  have e4 := num_sl ho (a := 8) (b := 8 + 1) (n := 20) (by decide) (by decide) hl
  have e5 := num_sl ho (a := 4) (b := 6) (n := 20) (by decide) (by decide) hl
  have e6 := num_sl ho (a := 6) (b := 8) (n := 20) (by decide) (by decide) hl
  have e7 := num_sl ho (a := 1) (b := 1 + 1) (n := 20) (by decide) (by decide) hl
  rw [num_one (by lia)] at e3 e4 e7
  show Tr.list [.int (num (sl ks 12 16)), .int (num (sl ks 16 20)), .int (dig ks 9), .int (dig ks 8), .int (num (sl ks 4 6)), .int (num (sl ks 6 8) / 8192), .int (num (sl ks 6 8) % 8192 * 8), .int (dig ks 1 / 4), .int (dig ks 1 % 4)] = _
  rw [← e1, ← e2, ← e3, ← e4, ← e5, ← e6, ← e7]
  clear e1 e2 e3 e4 e5 e6 e7
  generalize num (ks.take 20) = x
  have q1 : x / 256 ^ (20 - 16) % 256 ^ (16 - 12) = x / 2 ^ 32 % 2 ^ 32 := by simp only [Nat.reduceSub, Int.reducePow]
  have q2 : x / 256 ^ (20 - 20) % 256 ^ (20 - 16) = x % 2 ^ 32 := by simp only [Nat.reduceSub, Int.reducePow, Int.ediv_one]
  have q3 : x / 256 ^ (20 - (9 + 1)) % 256 ^ (9 + 1 - 9) = x / 2 ^ 80 % 256 := by simp only [Nat.reduceSub, Nat.reduceAdd, Int.reducePow]
  have q4 : x / 256 ^ (20 - (8 + 1)) % 256 ^ (8 + 1 - 8) = x / 2 ^ 88 % 256 := by simp only [Nat.reduceSub, Nat.reduceAdd, Int.reducePow]
  have q5 : x / 256 ^ (20 - 6) % 256 ^ (6 - 4) = x / 2 ^ 112 % 65536 := by simp only [Nat.reduceSub, Int.reducePow]
  have q6 : x / 256 ^ (20 - 8) % 256 ^ (8 - 6) / 8192 = x / 2 ^ 109 % 8 := by simp only [Nat.reduceSub, Int.reducePow]; lia
  have q7 : x / 256 ^ (20 - 8) % 256 ^ (8 - 6) % 8192 = x / 2 ^ 96 % 8192 := by simp only [Nat.reduceSub, Int.reducePow]; lia
  have q8 : x / 256 ^ (20 - (1 + 1)) % 256 ^ (1 + 1 - 1) / 4 = x / 2 ^ 146 % 64 := by simp only [Nat.reduceSub, Nat.reduceAdd, Int.reducePow]; lia
  have q9 : x / 256 ^ (20 - (1 + 1)) % 256 ^ (1 + 1 - 1) % 4 = x / 2 ^ 144 % 4 := by simp only [Nat.reduceSub, Nat.reduceAdd, Int.reducePow]; lia
  rw [q1, q2, q3, q4, q5, q6, q7, q8, q9]
include B in
theorem c_dueFields : Contract prg w (g0 w.params) h₀ 2 (.ref 238) sDueFields :=
  mkC (n := 1) (ex := exN) (l := [("_law_whole", .fn sWhole)]) (i := 30) (cd := 237) (name := "_law_due_fields") (names := ["octets"]) (pym := .str "law_pf0339_01" 418) B (by kernel_rfl) (by kernel_rfl) (fun vs h => by
    obtain ⟨a, rfl⟩ := len1 h
    kernel_rfl) (by kernel_rfl) exN_ok (.fn (by kernel_rfl) (by decide) (c_whole B) .nil) fun ts Q X h => by
    replace h := oneL_of h
    obtain ⟨xs, rfl, h⟩ := h
    · obtain ⟨ks, rfl, ho, hl, hq⟩ := h
      have hm : (ks.map Tr.int).length = ks.length := List.length_map _
      have hz : (ks.map Tr.int).length ≤ big := by first | exact le_big (by assumption) | (rw [big_eq]; lia)
      have err : ∀ e, headR ks = .error e → Q (errT e) := fun e q => by unfold dueFT at hq; rw [q] at hq; exact hq
      have good : ∀ h t, headR ks = .ok (h, t) → Q (.tup [.str "", saidT (readIp ks h t)]) := fun h t q => by unfold dueFT at hq; rw [q] at hq; exact hq
      clear hq
      refine ⟨rfl, show wpB S30 (b30.drop 0) (l32 ks) _ _ from cut1 0 (use (w30_0 ks _ _) ⟨hz, ifW_of (fun e => ?_) fun e => ?_⟩)⟩
      · have e' := of_decide_eq_true e
        exact err _ (by unfold headR; rw [if_pos (by lia)])
      have hlen : ¬ ks.length < 20 := by have := of_decide_eq_false e; lia
      have b0 := dig_oct ho 0
      refine cut1 1 (use (w30_1 ks _ _) (itT_of 0 hl (by lia) ⟨by decide, by decide +kernel, ifW_of (fun e => ?_) fun e => ?_⟩))
      · exact err _ (by unfold headR; rw [if_neg hlen, if_pos (bne_iff_ne.mp e)])
      have hver : ¬ dig ks 0 / 16 ≠ 4 := fun q => q (by simpa using e)
      refine cut1 2 (use (w30_2 ks _ _) (itT_of 0 hl (by lia) ⟨by decide, IntMulOk.of_left (by decide +kernel), ?_⟩))
      rw [Int.mul_comm 4]
      have badh : (dig ks 0 % 16 * 4 < 20 ∨ (ks.length : Int) < dig ks 0 % 16 * 4) → Q (errT "bad head length") := fun q => err _ (by unfold headR; rw [if_neg hlen, if_neg hver, if_pos q])
      refine cut1 3 (use (w30_3 ks _ _ _) ⟨fun e1 => ⟨hz, ifW_of (fun e2 => badh (.inr ?_)) fun e2 => ?_⟩, fun e1 => ifW_of (fun _ => badh (.inl ?_)) fun q => (nomatch q)⟩)
      · rw [hm] at e2; simp at e2; lia
      · have h1 := of_decide_eq_true e1
        have h2 : dig ks 0 % 16 * 4 ≤ ks.length := by rw [hm] at e2; simpa using e2
        have hhd : ¬ (dig ks 0 % 16 * 4 < 20 ∨ (ks.length : Int) < dig ks 0 % 16 * 4) := by lia
        refine cut1 4 (use (w30_4 ks _ _ _) (itT_of 2 hl (by lia) ⟨IntMulOk.of_left (by decide +kernel), itT_of 3 hl (by lia) ?_⟩))
        have badt : (256 * dig ks 2 + dig ks 3 < dig ks 0 % 16 * 4 ∨ (ks.length : Int) < 256 * dig ks 2 + dig ks 3) → Q (errT "bad total length") := fun q => err _ (by unfold headR; rw [if_neg hlen, if_neg hver, if_neg hhd, if_pos q])
        refine cut1 5 (use (w30_5 ks _ _ _ _) ⟨fun e3 => ⟨hz, ifW_of (fun e4 => badt (.inr ?_)) fun e4 => ?_⟩, fun e3 => ifW_of (fun _ => badt (.inl ?_)) fun q => (nomatch q)⟩)
        · rw [hm] at e4; simp at e4; lia
        · have h3 := of_decide_eq_true e3
          have h4 : 256 * dig ks 2 + dig ks 3 ≤ ks.length := by rw [hm] at e4; simpa using e4
          have htt : ¬ (256 * dig ks 2 + dig ks 3 < dig ks 0 % 16 * 4 ∨ (ks.length : Int) < 256 * dig ks 2 + dig ks 3) := by lia
          refine cut1 6 (use (w30_6 ks _ _ _ _) ⟨trivial, by lia, hz, ks.take (dig ks 0 % 16 * 4).toNat, (List.map_take).symm, oct_take ho _, by rw [List.length_take]; lia, ?_⟩)
          have hpos : 0 < num (ks.take (dig ks 0 % 16 * 4).toNat) := num_pos ho (by lia) (by lia) (by lia)
          refine cut1 7 (use (w30_7 ks _ _ _ _ _) ⟨by decide, ifW_of (fun e5 => ?_) fun e5 => ?_⟩)
          · exact err _ (by unfold headR; rw [if_neg hlen, if_neg hver, if_neg hhd, if_neg htt, if_pos (fun q => (bne_iff_ne.mp e5) ((fold_ff hpos).mp q))])
          have hs : ¬ fold (num (ks.take (dig ks 0 % 16 * 4).toNat)) ≠ 65535 := fun q => q ((fold_ff hpos).mpr (by simpa using e5))
          have hq := good _ _ (by unfold headR; rw [if_neg hlen, if_neg hver, if_neg hhd, if_neg htt, if_neg hs])
          generalize hh : dig ks 0 % 16 * 4 = hd at *
          generalize htot : 256 * dig ks 2 + dig ks 3 = tt at *
          have hp : (256 : Int) ^ (hd - 20).toNat = 2 ^ (8 * (hd - 20).toNat) := by rw [Int.pow_mul]; rfl
          refine cut1 8 (use (w30_8 ks _ _ _ _ _) ⟨by lia, by rw [bits256, show (2 : Int) ^ 27 = 134217728 from rfl]; lia, pow256_pos _, by rw [hp, log_pow]; lia, ?_⟩)
          have hab : num (ks.take hd.toNat) / 256 ^ (hd - 20).toNat = num (ks.take 20) := by
            have := num_above ho (h := hd.toNat) (by lia) (by lia)
            rw [show (hd - 20).toNat = hd.toNat - 20 by lia]
            exact this
          rw [hab]
          refine cut1 9 (use (w30_9 ks _ _ _ _ _ _) (fdW_of 32 (by decide) (mdW_of (mdW_of (fdW_of 80 (by decide) ⟨by decide, fdW_of 88 (by decide) ⟨by decide, ?_⟩⟩)))))
          refine cut1 10 (use (w30_10 ks _ _ _ _ _ _ _ _ _ _) (fdW_of 112 (by decide) ⟨by decide, fdW_of 109 (by decide) ⟨by decide, fdW_of 96 (by decide) ⟨by decide, IntMulOk.of_right (by decide +kernel), by decide +kernel, ?_⟩⟩⟩))
          refine cut1 11 (use (w30_11 ks _ _ _ _ _ _ _ _ _ _ _ _ _) (fdW_of 146 (by decide) ⟨by decide, fdW_of 144 (by decide) ⟨by decide, by decide +kernel, ?_⟩⟩))
          refine use (w30_12 ks _ _ _ _ _ _ _) (bsW_of ho hl (by decide) (by lia) (bsW_of ho hl (by lia) (by lia) ?_))
          unfold saidT at hq
          rw [numbers_eq ho (by lia)] at hq
          exact hq
        · have := of_decide_eq_false e3; lia
      · have := of_decide_eq_false e1; lia
end
end Mine
end
section
open PySem PySem.W PySem.Spec PySem.Calls PyProof.Rows
set_option Elab.async false
namespace Mine
set_option tactic.hygienic false
set_option maxRecDepth 100000
section
variable {w : World} {h₀ : Heap} (B : Base prg w (kf w.params) h₀)
noncomputable abbrev S27 : Sig := sigOf exN [("_law_whole", .fn sWhole), ("_law_row", .new sRow)]
noncomputable abbrev b27 : List Stmt := (fnAt 27).2.1
noncomputable abbrev Nine.loc (x : Nine) (z : Loc) : Loc := ("source", .val (.int x.a)) :: ("target", .val (.int x.b)) :: ("protocol", .val (.int x.c)) :: ("ttl", .val (.int x.d)) :: ("ident", .val (.int x.e)) :: ("flags", .val (.int x.f)) :: ("place", .val (.int x.g)) :: ("dscp", .val (.int x.h)) :: ("ecn", .val (.int x.i)) :: z
noncomputable abbrev l27 (x : Nine) (sl : Slot) (t : Int) (z : Loc) : Loc := ("fields", .val x.tr) :: ("options", sl) :: ("total", .val (.int t)) :: x.loc z
theorem w27_0 (x : Nine) (o : List Int) (t : Int) (Q : Fl → Loc → Prop) (X : XE) : wpB S27 ((b27.drop 0).take 1) [("fields", .val x.tr), ("options", .val (iL o)), ("total", .val (.int t))] Q X = ∃ ρ2, some (l27 x (.val (iL o)) t []) = some ρ2 ∧ Q .next ρ2 := by kernel_rfl
theorem w27_1 (x : Nine) (o : List Int) (t : Int) (Q : Fl → Loc → Prop) (X : XE) : wpB S27 ((b27.drop 1).take 1) (l27 x (.val (iL o)) t []) Q X = ((o.map Tr.int).length ≤ big ∧ 0 < (4 : Int) ∧ Operator.Mult = Operator.Mult ∧ -1000 ≤ -((o.map Tr.int).length : Int) % 4 ∧ -((o.map Tr.int).length : Int) % 4 ≤ 1000 ∧ ∃ i : Int, [Tr.int 0] = [Tr.int i] ∧
  (o.map Tr.int).length + (List.replicate (-((o.map Tr.int).length : Int) % 4).toNat (Tr.int i)).length ≤ big ∧ Q .next (l27 x (.mu (.list (o.map Tr.int ++ List.replicate (-((o.map Tr.int).length : Int) % 4).toNat (Tr.int i)))) t [])) := by kernel_rfl
theorem w27_2 (x : Nine) (o : List Int) (t : Int) (Q : Fl → Loc → Prop) (X : XE) : wpB S27 ((b27.drop 2).take 1) (l27 x (.mu (iL o)) t []) Q X = ((o.map Tr.int).length ≤ big ∧ 0 < (4 : Int) ∧ (4 : Int).natAbs.log2 < 9000 ∧ IntMulOk (64 + 5 + ((o.map Tr.int).length : Int) / 4) 256 ∧ IntMulOk 4 x.h ∧
  Q .next (l27 x (.mu (iL o)) t [("whole", .val (.int ((64 + 5 + ((o.map Tr.int).length : Int) / 4) * 256 + 4 * x.h + x.i)))])) := by kernel_rfl
theorem w27_3 (x : Nine) (o : List Int) (t u : Int) (Q : Fl → Loc → Prop) (X : XE) : wpB S27 ((b27.drop 3).take 1) (l27 x (.mu (iL o)) t [("whole", .val (.int u))]) Q X = (IntMulOk u 65536 ∧ IntMulOk (u * 65536 + t) 65536 ∧ IntMulOk ((u * 65536 + t) * 65536 + x.e) 65536 ∧ IntMulOk 8192 x.f ∧ 0 < (8 : Int) ∧ (8 : Int).natAbs.log2 < 9000 ∧
  Q .next (l27 x (.mu (iL o)) t [("whole", .val (.int (((u * 65536 + t) * 65536 + x.e) * 65536 + 8192 * x.f + x.g / 8)))])) := by kernel_rfl
theorem w27_4 (x : Nine) (o : List Int) (t u : Int) (Q : Fl → Loc → Prop) (X : XE) : wpB S27 ((b27.drop 4).take 1) (l27 x (.mu (iL o)) t [("whole", .val (.int u))]) Q X = (IntMulOk u 256 ∧ IntMulOk (u * 256 + x.d) 256 ∧ IntMulOk ((u * 256 + x.d) * 256 + x.c) 65536 ∧
  Q .next (l27 x (.mu (iL o)) t [("whole", .val (.int (((u * 256 + x.d) * 256 + x.c) * 65536)))])) := by kernel_rfl
theorem w27_5 (x : Nine) (o : List Int) (t u : Int) (Q : Fl → Loc → Prop) (X : XE) : wpB S27 ((b27.drop 5).take 1) (l27 x (.mu (iL o)) t [("whole", .val (.int u))]) Q X = (binW .Pow (.int 2) (.int 32) fun p => binW .Mult (.int u) p fun y => binW .Add y (.int x.a) fun y => binW .Pow (.int 2) (.int 32) fun p => binW .Mult y p fun y => binW .Add y (.int x.b) fun y =>
  Q .next (l27 x (.mu (iL o)) t [("whole", .val y)])) := by kernel_rfl
theorem w27_6 (x : Nine) (o : List Int) (t u : Int) (Q : Fl → Loc → Prop) (X : XE) : wpB S27 ((b27.drop 6).take 1) (l27 x (.mu (iL o)) t [("whole", .val (.int u))]) Q X = ((o.map Tr.int).length ≤ big ∧ 0 ≤ ((o.map Tr.int).length : Int) ∧ (Builtin.Int.intBits 256 : Int) * ((o.map Tr.int).length : Int) ≤ 2 ^ 27 ∧ IntMulOk u (256 ^ ((o.map Tr.int).length : Int).toNat) ∧
  ∃ ks, o.map Tr.int = ks.map Tr.int ∧ oct ks ∧ ks.length ≤ 1000 ∧ Q .next (l27 x (.val (iL o)) t [("whole", .val (.int (u * 256 ^ ((o.map Tr.int).length : Int).toNat + num ks)))])) := by kernel_rfl
theorem w27_7 (x : Nine) (o : List Int) (t u : Int) (Q : Fl → Loc → Prop) (X : XE) : wpB S27 ((b27.drop 7).take 1) (l27 x (.val (iL o)) t [("whole", .val (.int u))]) Q X = (0 < (65535 : Int) ∧ Q .next (l27 x (.val (iL o)) t [("whole", .val (.int u)), ("check", .val (.int (65534 - (u - 1) % 65535)))])) := by kernel_rfl
theorem w27_8 (x : Nine) (o : List Int) (t u c : Int) (Q : Fl → Loc → Prop) (X : XE) : wpB S27 (b27.drop 8) (l27 x (.val (iL o)) t [("whole", .val (.int u)), ("check", .val (.int c))]) Q X = ((o.map Tr.int).length ≤ big ∧ 0 ≤ 8 + ((o.map Tr.int).length : Int) ∧ (Builtin.Int.intBits 256 : Int) * (8 + ((o.map Tr.int).length : Int)) ≤ 2 ^ 27 ∧ IntMulOk c (256 ^ (8 + ((o.map Tr.int).length : Int)).toNat) ∧
  (o.map Tr.int).length ≤ big ∧ 0 ≤ 20 + ((o.map Tr.int).length : Int) ∧ 20 + ((o.map Tr.int).length : Int) ≤ 1000 ∧ Q (.ret (.list ((be (u + c * 256 ^ (8 + ((o.map Tr.int).length : Int)).toNat) (20 + ((o.map Tr.int).length : Int)).toNat).map Tr.int))) (l27 x (.val (iL o)) t [("whole", .val (.int u)), ("check", .val (.int c))])) := by kernel_rfl
end
/-- what a head's number is built of is small -/
noncomputable abbrev Nine.fits (x : Nine) : Prop := (0 ≤ x.a ∧ x.a < 2 ^ 32) ∧ (0 ≤ x.b ∧ x.b < 2 ^ 32) ∧ (0 ≤ x.c ∧ x.c < 256) ∧ (0 ≤ x.d ∧ x.d < 256) ∧ (0 ≤ x.e ∧ x.e < 65536) ∧ (0 ≤ x.f ∧ x.f < 8) ∧ (0 ≤ x.g ∧ x.g < 65529) ∧ (0 ≤ x.h ∧ x.h < 64) ∧ (0 ≤ x.i ∧ x.i < 4)
noncomputable def Nine.headL (x : Nine) (o : List Int) (t : Int) : List Int := Mine.headL x.a x.b x.c x.d x.e x.f x.g x.h x.i o t
noncomputable def sHead2 : Spec := fun ts Q _ => nineLL ts fun x xs r => oneI r fun t => ∃ o : List Int, xs = o.map Tr.int ∧ oct o ∧ o.length ≤ 44 ∧ (0 ≤ t ∧ t < 65536) ∧ x.fits ∧ Q (.list ((x.headL (pad o) t).map Tr.int))
theorem pad_tr (o : List Int) : o.map Tr.int ++ List.replicate (-(o.length : Int) % 4).toNat (Tr.int 0) = (pad o).map Tr.int := by
  unfold pad
  rw [List.map_append, List.map_replicate]
section
variable {w : World} {h₀ : Heap} (B : Base prg w (kf w.params) h₀)
include B in
theorem c_hd : Contract prg w (g0 w.params) h₀ 2 (.ref 217) sHead2 :=
  mkC (n := 1) (ex := exN) (l := [("_law_whole", .fn sWhole), ("_law_row", .new sRow)]) (i := 27) (cd := 216) (name := "_law_head") (names := ["fields", "options", "total"]) (pym := .str "law_pf0339_01" 418) B (by kernel_rfl) (by kernel_rfl) (fun vs h => by
    obtain ⟨a, b, c, rfl⟩ := len3 h
    kernel_rfl) (by kernel_rfl) exN_ok (.fn (by kernel_rfl) (by decide) (c_whole B) (.new (by kernel_rfl) (by decide) (c_row B) .nil)) fun ts Q X h => by
    replace h := nineLL_of h
    obtain ⟨x, xs, r, rfl, h⟩ := h
    replace h := oneI_of h
    obtain ⟨t, rfl, h⟩ := h
    · obtain ⟨o, rfl, ho, hl, ⟨ht0, ht1⟩, ⟨⟨a0, a1⟩, ⟨b0, b1⟩, ⟨c0, c1⟩, ⟨d0, d1⟩, ⟨e0, e1⟩, ⟨f0, f1⟩, ⟨g0, g1⟩, ⟨h0, h1⟩, ⟨i0, i1⟩⟩, hq⟩ := h
      have hm : (o.map Tr.int).length = o.length := List.length_map _
      have hpl := pad_len o
      have h4 := Int.emod_nonneg (-(o.length : Int)) (show (4 : Int) ≠ 0 by decide)
      have h5 := Int.emod_lt_of_pos (-(o.length : Int)) (show (0 : Int) < 4 by decide)
      refine ⟨rfl, show wpB S27 (b27.drop 0) _ _ _ from cut1 0 (use (w27_0 x o t _ _) ⟨_, rfl, cut1 1 (use (w27_1 x o t _ _) ?_)⟩)⟩
      rw [hm]
      refine ⟨by first | exact le_big (by assumption) | (rw [big_eq]; lia), by decide, rfl, by lia, by lia, 0, rfl, by rw [List.length_replicate, big_eq]; lia, ?_⟩
      rw [pad_tr]
      have hpo := pad_oct ho
      unfold Nine.headL at hq
      generalize hP : pad o = P at *
      clear hP
      have hmP : (P.map Tr.int).length = P.length := List.length_map _
      refine cut1 2 (use (w27_2 x P t _ _) ?_)
      rw [hmP]
      refine ⟨by first | exact le_big (by assumption) | (rw [big_eq]; lia), by decide, by decide +kernel, IntMulOk.of_right (by decide +kernel), IntMulOk.of_left (by decide +kernel), ?_⟩
      have W1 : 0 ≤ (64 + 5 + (P.length : Int) / 4) * 256 + 4 * x.h + x.i ∧ (64 + 5 + (P.length : Int) / 4) * 256 + 4 * x.h + x.i < 65536 := by lia
      unfold Mine.headL wholeOf at hq
      generalize (64 + 5 + (P.length : Int) / 4) * 256 + 4 * x.h + x.i = w1 at *
      refine cut1 3 (use (w27_3 x P t w1 _ _) ⟨IntMulOk.of_right (by decide +kernel), IntMulOk.of_right (by decide +kernel), IntMulOk.of_right (by decide +kernel), IntMulOk.of_left (by decide +kernel), by decide, by decide +kernel, ?_⟩)
      have W2 : 0 ≤ ((w1 * 65536 + t) * 65536 + x.e) * 65536 + 8192 * x.f + x.g / 8 ∧ ((w1 * 65536 + t) * 65536 + x.e) * 65536 + 8192 * x.f + x.g / 8 < 2 ^ 64 := by lia
      generalize ((w1 * 65536 + t) * 65536 + x.e) * 65536 + 8192 * x.f + x.g / 8 = w2 at *
      refine cut1 4 (use (w27_4 x P t w2 _ _) ⟨IntMulOk.of_right (by decide +kernel), IntMulOk.of_right (by decide +kernel), IntMulOk.of_right (by decide +kernel), ?_⟩)
      have W3 : 0 ≤ ((w2 * 256 + x.d) * 256 + x.c) * 65536 ∧ ((w2 * 256 + x.d) * 256 + x.c) * 65536 < 2 ^ 96 := by lia
      generalize ((w2 * 256 + x.d) * 256 + x.c) * 65536 = w3 at *
      refine cut1 5 (use (w27_5 x P t w3 _ _) ⟨by decide, by decide +kernel, IntMulOk.of_right (by decide +kernel), by decide, by decide +kernel, IntMulOk.of_right (by decide +kernel), ?_⟩)
      have W4 : 0 ≤ (w3 * 2 ^ 32 + x.a) * 2 ^ 32 + x.b ∧ (w3 * 2 ^ 32 + x.a) * 2 ^ 32 + x.b < 2 ^ 160 := by lia
      show wpB S27 _ (l27 x (.mu (iL P)) t [("whole", .val (.int ((w3 * 2 ^ 32 + x.a) * 2 ^ 32 + x.b)))]) _ _
      generalize (w3 * 2 ^ 32 + x.a) * 2 ^ 32 + x.b = w4 at *
      refine cut1 6 (use (w27_6 x P t w4 _ _) ?_)
      rw [hmP, Int.toNat_natCast]
      have hp : (256 : Int) ^ P.length < 2 ^ 400 := by
        have : (256 : Int) ^ P.length = 2 ^ (8 * P.length) := by rw [Int.pow_mul]; rfl
        rw [this]
        exact_mod_cast Nat.pow_lt_pow_right (a := 2) (by decide) (show 8 * P.length < 400 by lia)
      refine ⟨by first | exact le_big (by assumption) | (rw [big_eq]; lia), by lia, by rw [bits256, show (2 : Int) ^ 27 = 134217728 from rfl]; lia, IntMulOk.of_le (bits_le W4.1 W4.2) (bits_le (Int.le_of_lt (pow256_pos _)) hp) (by decide), P, rfl, hpo, by lia, ?_⟩
      refine cut1 7 (use (w27_7 x P t _ _ _) ⟨by decide, ?_⟩)
      generalize w4 * 256 ^ P.length + num P = w5 at *
      refine use (w27_8 x P t _ _ _ _) ?_
      rw [hmP, show (8 + (P.length : Int)).toNat = 8 + P.length by lia, show (20 + (P.length : Int)).toNat = 20 + P.length by lia]
      have C1 : 0 ≤ 65534 - (w5 - 1) % 65535 ∧ 65534 - (w5 - 1) % 65535 < 2 ^ 16 := by lia
      exact ⟨by first | exact le_big (by assumption) | (rw [big_eq]; lia), by lia, by rw [bits256, show (2 : Int) ^ 27 = 134217728 from rfl]; lia, IntMulOk.of_left (Nat.le_trans (bits_le C1.1 C1.2) (by decide)), by first | exact le_big (by assumption) | (rw [big_eq]; lia), by lia, by lia, hq⟩
end
end Mine
end
section
open PySem PySem.W PySem.Spec PySem.Calls PyProof.Rows
set_option Elab.async false
namespace Mine
set_option tactic.hygienic false
set_option maxRecDepth 100000
/-- the fields as a packet -/
noncomputable def Nine.ip (x : Nine) (o d : List Int) : Ip := ⟨x.a, x.b, x.c, d, x.d, x.e, x.f, x.g, x.h, x.i, o⟩
noncomputable abbrev Nine.odd (x : Nine) : Prop := 7 < x.f ∨ 65528 < x.g ∨ x.g % 8 ≠ 0 ∨ 63 < x.h ∨ 3 < x.i
noncomputable def wantT (x : Nine) (o d : List Int) : Tr :=
  if 40 < o.length then .tup [.str "BadPacket", .str "options too long"]
  else if x.odd then .tup [.str "Misused", .str "no such field of an IPv4 head"]
  else if ¬ x.fits then .tup [.str "Misused", .str "the number does not fit its octets"]
  else .tup [.str "", .bytes (x.headL (pad o) (20 + (pad o).length + d.length) ++ d)]
noncomputable def sDueW : Spec := fun ts Q _ => nineLL ts fun x xs r => oneL r fun ys => ∃ o k : List Int, xs = o.map Tr.int ∧ ys = k.map Tr.int ∧ oct o ∧ oct k ∧ o.length ≤ 500 ∧ k.length ≤ 500 ∧ Q (wantT x o k)
/-- an option -/
noncomputable abbrev pairT (p : Int × List Int) : Tr := .tup [.int p.1, .bytes p.2]
/-- options told, none when they are broken -/
noncomputable def due (ks : List Int) : Option (List (Int × List Int)) :=
  if _hn : ks = [] then some []
  else if dig ks 0 = 0 then some []
  else if dig ks 0 = 1 then (due (ks.drop 1)).map ((1, []) :: ·)
  else if _h : ks.length ≤ 1 ∨ dig ks 1 < 2 ∨ (ks.length : Int) < dig ks 1 then none
  else (due (ks.drop (dig ks 1).toNat)).map ((dig ks 0, sl ks 2 (dig ks 1).toNat) :: ·)
termination_by ks.length
decreasing_by
  · rw [List.length_drop]
    have : ks.length ≠ 0 := fun e => _hn (List.length_eq_zero_iff.mp e)
    omega
  · rw [List.length_drop]
    omega
noncomputable def dueT (ks : List Int) : Tr := match due ks with
  | none => .none
  | some l => .list (l.map pairT)
noncomputable def sOptions : Spec := fun ts Q X => oneB ts fun ks => oct ks ∧ ks.length ≤ 1000 ∧ (due ks = none → X 56 "bad option") ∧ (∀ l, due ks = some l → Q (.list (l.map pairT)))
noncomputable def sDue1 (n : Nat) : Spec := fun ts Q _ => oneL ts fun xs => ∃ ks : List Int, xs = ks.map Tr.int ∧ oct ks ∧ ks.length ≤ n ∧ ks.length ≤ 1000 ∧ Q (dueT ks)
noncomputable def sDue : Nat → Spec
  | 0 => fun _ _ _ => False
  | n + 1 => sDue1 n
noncomputable def optL (l : List (Int × List Int)) : List Int := (l.map fun p => if 1 < p.1 then p.1 :: ((p.2.length : Int) + 2) :: p.2 else [p.1]).flatten
noncomputable def optsOk (l : List (Int × List Int)) : Prop := ∀ p ∈ l, (0 ≤ p.1 ∧ p.1 < 256) ∧ oct p.2 ∧ p.2.length ≤ 4 ∧ (p.1 ≤ 1 → p.2 = [])
noncomputable def sWOpts : Spec := fun ts Q _ => oneL ts fun xs => ∃ l : List (Int × List Int), xs = l.map pairT ∧ optsOk l ∧ l.length ≤ 10 ∧ Q (.bytes (optL l))
noncomputable def sOOctets : Spec := fun ts Q _ => oneL ts fun xs => ∃ l : List (Int × List Int), xs = l.map pairT ∧ optsOk l ∧ l.length ≤ 10 ∧ Q (.list ((optL l).map Tr.int))
noncomputable def sDrawn : Spec := fun ts Q _ => oneL ts fun xs => ∃ ns : List Int, xs = ns.map Tr.int ∧ ns.length ≤ 1000 ∧ ∀ l, optsOk l → l.length = 3 → Q (.list (l.map pairT))
theorem optL_len {l : List (Int × List Int)} (h : optsOk l) : (optL l).length ≤ 6 * l.length := by
  induction l with
  | nil => exact Nat.le_refl _
  | cons p l ih =>
    have h1 := h p (.head _)
    have h2 := ih fun q hq => h q (.tail _ hq)
    unfold optL at h2 ⊢
    rw [List.map_cons, List.flatten_cons, List.length_append, List.length_cons]
    have : (if 1 < p.1 then p.1 :: ((p.2.length : Int) + 2) :: p.2 else [p.1]).length ≤ 6 := by
      have := h1.2.2.1
      split <;> simp <;> omega
    omega
theorem optL_oct {l : List (Int × List Int)} (h : optsOk l) : oct (optL l) := by
  induction l with
  | nil => exact fun x hx => nomatch hx
  | cons p l ih =>
    have h1 := h p (.head _)
    have h2 := ih fun q hq => h q (.tail _ hq)
    unfold optL at h2 ⊢
    rw [List.map_cons, List.flatten_cons]
    refine oct_append.mpr ⟨?_, h2⟩
    have := h1.2.2.1
    split
    · exact oct_cons.mpr ⟨h1.1, oct_cons.mpr ⟨by omega, h1.2.1⟩⟩
    · exact oct_cons.mpr ⟨h1.1, fun x hx => nomatch hx⟩
theorem optL_snoc (l : List (Int × List Int)) (p : Int × List Int) : optL (l ++ [p]) = optL l ++ (if 1 < p.1 then p.1 :: ((p.2.length : Int) + 2) :: p.2 else [p.1]) := by
  unfold optL
  simp
theorem dig_drop (ks : List Int) (a j : Nat) : dig (ks.drop a) j = dig ks (a + j) := by
  unfold dig
  rw [List.getD_eq_getElem?_getD, List.getElem?_drop, List.getD_eq_getElem?_getD]
theorem sl_drop (ks : List Int) (a b c : Nat) : sl (ks.drop a) b c = sl ks (a + b) (a + c) := by
  unfold sl
  rw [List.take_drop, List.drop_drop]
end Mine
end
section
open PySem PySem.W PySem.Spec PySem.Calls PyProof.Rows
set_option Elab.async false
namespace Mine
set_option tactic.hygienic false
set_option maxRecDepth 100000
/-- and: the next test, or the end -/
noncomputable def andW (c : Bool) (rest : Prop) (K : Bool → Prop) : Prop := (c = true → rest) ∧ (c = false → K c)
noncomputable def WQ (N : Loc → Prop) (Q : Fl → Loc → Prop) : Fl → Loc → Prop := fun fl ρ2 => match fl with
        | .ret t => Q (.ret t) ρ2
        | .retm x t => Q (.retm x t) ρ2
        | _ => N ρ2
theorem and_if {c : Bool} {p a b : Prop} (h1 : c = true → p) (h2 : c = false → b) : andW c p (fun c => ifW c a b) := ⟨h1, fun e => by rw [e]; exact ⟨fun q => (nomatch q), fun _ => h2 e⟩⟩
theorem and_last {c : Bool} {a b : Prop} (h1 : c = true → a) (h2 : c = false → b) : andW c (ifW true a b) (fun c => ifW c a b) := and_if (fun e => ⟨fun _ => h1 e, fun q => (nomatch q)⟩) h2
theorem itT_at {ks : List Int} {k : Int} {K : Tr → Prop} (hl : ks.length ≤ 1000) (h0 : 0 ≤ k) (hk : k < ks.length) (h : K (.int (dig ks k.toNat))) : itT ks k K := by
  have e : k = (k.toNat : Int) := by lia
  rw [e]
  exact itT_of _ hl (by lia) h

section
variable {w : World} {h₀ : Heap} (B : Base prg w (kf w.params) h₀)
noncomputable abbrev S18 : Sig := sigOf exM []
noncomputable abbrev b18 : List Stmt := (fnAt 18).2.1
noncomputable abbrev bb18 : List Stmt := forBody (stAt 18 2)
noncomputable abbrev l18 (ks : List Int) (xs : List Tr) (a : Int) : Loc := [("octets", .val (.bytes ks)), ("out", .mu (.list xs)), ("at", .val (.int a))]
theorem w18 (ks : List Int) (Q : Fl → Loc → Prop) (X : XE) : wpB S18 b18 [("octets", .val (.bytes ks))] Q X = WhileK S18 (whT (stAt 18 2)) bb18 (l18 ks [] 0) (seqQ S18 (b18.drop 3) Q X) X := by kernel_rfl
theorem w18t (ks : List Int) (xs : List Tr) (a : Int) (N : Loc → Prop) (Q : Fl → Loc → Prop) (X : XE) : WTurn S18 (whT (stAt 18 2)) bb18 (l18 ks xs a) N Q X =
  (ks.length ≤ big ∧ andW (decide (a < (ks.length : Int))) (itB ks a fun x => andW (x != 0) (ifW true (wpB S18 bb18 (l18 ks xs a) (WQ N Q) X) (Q .next (l18 ks xs a))) (fun c => ifW c (wpB S18 bb18 (l18 ks xs a) (WQ N Q) X) (Q .next (l18 ks xs a)))) (fun c => ifW c (wpB S18 bb18 (l18 ks xs a) (WQ N Q) X) (Q .next (l18 ks xs a)))) := by kernel_rfl
theorem w18_0 (ks : List Int) (xs : List Tr) (a : Int) (Q : Fl → Loc → Prop) (X : XE) : wpB S18 ((bb18.drop 0).take 1) (l18 ks xs a) Q X = itB ks a fun x => ifW (x == 1) (("append" : PySem.Str) = "append" ∧ some (Slot.mu (Tr.list xs)) = some (Slot.mu (Tr.list xs)) ∧ xs.length < big ∧ Operator.Add = Operator.Add ∧ Q .cont (l18 ks (xs ++ [.tup [.int 1, .bytes []]]) (a + 1))) (Q .next (l18 ks xs a)) := by kernel_rfl
theorem w18_1 (ks : List Int) (xs : List Tr) (a : Int) (Q : Fl → Loc → Prop) (X : XE) : wpB S18 ((bb18.drop 1).take 1) (l18 ks xs a) Q X = (ks.length ≤ big ∧ orW (decide ((ks.length : Int) ≤ a + 1)) (itB ks (a + 1) fun x => orW (decide (x < 2)) (itB ks (a + 1) fun x => ks.length ≤ big ∧ orW (decide ((ks.length : Int) < a + x)) (ifW false (X 56 "bad option" (l18 ks xs a)) (Q .next (l18 ks xs a))) (fun c => ifW c (X 56 "bad option" (l18 ks xs a)) (Q .next (l18 ks xs a)))) (fun c => ifW c (X 56 "bad option" (l18 ks xs a)) (Q .next (l18 ks xs a)))) (fun c => ifW c (X 56 "bad option" (l18 ks xs a)) (Q .next (l18 ks xs a)))) := by kernel_rfl
theorem w18_2 (ks : List Int) (xs : List Tr) (a : Int) (Q : Fl → Loc → Prop) (X : XE) : wpB S18 ((bb18.drop 2).take 1) (l18 ks xs a) Q X = (("append" : PySem.Str) = "append" ∧ itB ks a fun k => itB ks (a + 1) fun n => slI ks (a + 2) (a + n) fun d => some (Slot.mu (Tr.list xs)) = some (Slot.mu (Tr.list xs)) ∧ xs.length < big ∧ Q .next (l18 ks (xs ++ [.tup [.int k, .bytes d]]) a)) := by kernel_rfl
theorem w18_3 (ks : List Int) (xs : List Tr) (a : Int) (Q : Fl → Loc → Prop) (X : XE) : wpB S18 (bb18.drop 3) (l18 ks xs a) Q X = itB ks (a + 1) fun n => Operator.Add = Operator.Add ∧ Q .next (l18 ks xs (a + n)) := by kernel_rfl
theorem w18e (ks : List Int) (xs : List Tr) (a : Int) (Q : Fl → Loc → Prop) (X : XE) : wpB S18 (b18.drop 3) (l18 ks xs a) Q X = Q (.retm "out" (.list xs)) (l18 ks xs a) := by kernel_rfl
include B in
theorem c_options : Contract prg w (g0 w.params) h₀ 4 (.ref 163) sOptions :=
  mkC (n := 3) (ex := exM) (l := []) (i := 18) (cd := 162) (name := "options_of") (names := ["octets"]) (pym := .str "siftwall.ipv4" 302) B (by kernel_rfl) (by kernel_rfl) (fun vs h => by
    obtain ⟨a, rfl⟩ := len1 h
    kernel_rfl) (by kernel_rfl) (exM_ok (Nat.le_refl _)) .nil fun ts Q X h => by
    replace h := oneB_of h
    obtain ⟨ks, rfl, h⟩ := h
    · obtain ⟨ho, hl, hX, hQ⟩ := h
      have hz : ks.length ≤ big := by first | exact le_big (by assumption) | (rw [big_eq]; lia)
      refine ⟨rfl, use (w18 ks _ _) (whileK_of (σ := List (Int × List Int) × Nat) (fun s => s.2 ≤ ks.length ∧ s.1.length ≤ s.2 ∧ due ks = (due (ks.drop s.2)).map (s.1 ++ ·)) (fun s => ks.length - s.2) (fun s => l18 ks (s.1.map pairT) (s.2 : Int)) ([], 0) rfl ⟨Nat.zero_le _, Nat.zero_le _, by rw [List.drop_zero]; cases due ks <;> rfl⟩ fun s hs => ?_)⟩
      obtain ⟨out, a⟩ := s
      obtain ⟨h1, h2, h3⟩ := hs
      dsimp only at h1 h2 h3 ⊢
      have stop : (due (ks.drop a) = some []) → seqQ S18 (b18.drop 3) (endQ Q) (fun C y _ => X C y) .next (l18 ks (out.map pairT) (a : Int)) := fun e => by
        refine use (w18e ks _ _ _ _) ?_
        refine hQ out ?_
        rw [h3, e]
        simp
      have hb : (out.map pairT).length < big := by first | exact le_bigm (by assumption) | (rw [List.length_map, big_eq]; lia)
      refine use (w18t ks _ _ _ _ _) ⟨hz, and_if (fun e => ?_) fun e => ?_⟩
      rotate_left
      · have e' := of_decide_eq_false e
        refine stop ?_
        rw [List.drop_eq_nil_of_le (by lia), due, dif_pos rfl]
      have ha : a < ks.length := by have := of_decide_eq_true e; lia
      have hn : ks.drop a ≠ [] := fun q => by have := congrArg List.length q; rw [List.length_drop] at this; simp at this; lia
      have d0 : dig (ks.drop a) 0 = dig ks a := dig_drop ks a 0
      have d1 : dig (ks.drop a) 1 = dig ks (a + 1) := dig_drop ks a 1
      refine itB_of a hl ha (and_last (fun e0 => ?_) fun e0 => stop ?_)
      rotate_left
      · rw [due, dif_neg hn, if_pos (by rw [d0]; simpa using e0)]
      have n0 : ¬ dig (ks.drop a) 0 = 0 := by rw [d0]; exact bne_iff_ne.mp e0
      have hstep := due.eq_1 (ks.drop a)
      rw [dif_neg hn, if_neg n0, d0, d1] at hstep
      have hoa := dig_oct ho a
      have hob := dig_oct ho (a + 1)
      refine cut1 0 (use (w18_0 ks _ _ _ _) (itB_of a hl ha ⟨fun e1 => ⟨rfl, rfl, hb, rfl, ?_⟩, fun e1 => ?_⟩))
      · have e1' : dig ks a = 1 := by simpa using e1
        rw [if_pos e1', List.drop_drop] at hstep
        refine ⟨(out ++ [(1, [])], a + 1), by simp [l18], ⟨by lia, by simp; lia, ?_⟩, by show ks.length - (a + 1) < _; lia⟩
        rw [h3, hstep]
        cases due (ks.drop (a + 1)) <;> simp
      have e1' : ¬ dig ks a = 1 := by simpa using e1
      rw [if_neg e1'] at hstep
      have bad : ((ks.drop a).length ≤ 1 ∨ dig ks (a + 1) < 2 ∨ ((ks.drop a).length : Int) < dig ks (a + 1)) → X 56 "bad option" := fun q => hX (by rw [h3, hstep, dif_pos q]; rfl)
      rw [List.length_drop] at bad hstep
      refine cut1 1 (use (w18_1 ks _ _ _ _) ⟨hz, or_cut (fun e2 => bad (.inl ?_)) fun e2 => ?_⟩)
      · have := of_decide_eq_true e2; lia
      have e2' := of_decide_eq_false e2
      refine itB_of (a + 1) hl (by lia) (or_cut (fun e3 => bad (.inr (.inl (of_decide_eq_true e3)))) fun e3 => ?_)
      have e3' := of_decide_eq_false e3
      refine itB_of (a + 1) hl (by lia) ⟨hz, or_last (fun e4 => bad (.inr (.inr ?_))) fun e4 => ?_⟩
      · have := of_decide_eq_true e4; lia
      have e4' := of_decide_eq_false e4
      rw [dif_neg (by lia), List.drop_drop, sl_drop] at hstep
      refine cut1 2 (use (w18_2 ks _ _ _ _) ⟨rfl, itB_of a hl ha (itB_of (a + 1) hl (by lia) (slI_of (by lia) (by lia) hl ⟨rfl, hb, ?_⟩))⟩)
      refine use (w18_3 ks _ _ _ _) (itB_of (a + 1) hl (by lia) ⟨rfl, ?_⟩)
      rw [show ((a : Int) + 2).toNat = a + 2 by lia, show ((a : Int) + dig ks (a + 1)).toNat = a + (dig ks (a + 1)).toNat by lia]
      refine ⟨(out ++ [(dig ks a, sl ks (a + 2) (a + (dig ks (a + 1)).toNat))], a + (dig ks (a + 1)).toNat), ?_, ⟨?_, ?_, ?_⟩, ?_⟩
      · show l18 ks _ _ = l18 ks _ _
        rw [List.map_append, show ((a + (dig ks (a + 1)).toNat : Nat) : Int) = (a : Int) + dig ks (a + 1) by lia]
        rfl
      · show a + (dig ks (a + 1)).toNat ≤ ks.length
        lia
      · simp; lia
      · rw [h3, hstep]
        cases due (ks.drop (a + (dig ks (a + 1)).toNat)) <;> simp
      · show ks.length - (a + (dig ks (a + 1)).toNat) < ks.length - a
        lia
end
end Mine
end
section
open PySem PySem.W PySem.Spec PySem.Calls PyProof.Rows
set_option Elab.async false
namespace Mine
set_option tactic.hygienic false
set_option maxRecDepth 100000
theorem be_one {n : Int} (h0 : 0 ≤ n) (h1 : n < 256) : be n 1 = [n] := by
  show be (n / 256) 0 ++ [n % 256] = [n]
  rw [Int.emod_eq_of_lt h0 h1]; rfl
theorem oct_in {n j : Int} (k : Nat) (hj : j = k) (hk : k ≤ 100) {X : Addr → PySem.Str → Prop} {Q : Tr → Prop} (h0 : 0 ≤ n) (h1 : n < 256 ^ k) (h2 : Q (.bytes (be n k))) : sOctets [.int n, .int j] Q X := by
  subst hj
  refine ⟨Int.natCast_nonneg _, by lia, fun h => ?_, fun a b => by rw [Int.toNat_natCast]; exact h2⟩
  rw [Int.toNat_natCast] at h
  lia
theorem optsOk_take {l : List (Int × List Int)} (h : optsOk l) (i : Nat) : optsOk (l.take i) := fun p hp => h p (List.mem_of_mem_take hp)
theorem not_in01 {k : Int} : (!([0, 1] : List Int).contains k) = true ↔ k ≠ 0 ∧ k ≠ 1 := by simp [Bool.eq_false_iff]
section
variable {w : World} {h₀ : Heap} (B : Base prg w (kf w.params) h₀)
noncomputable abbrev S19 : Sig := sigOf exN [("octets_of", .fn sOctets)]
noncomputable abbrev b19 : List Stmt := (fnAt 19).2.1
theorem w19 (l : List (Int × List Int)) (Q : Fl → Loc → Prop) (X : XE) : wpB S19 b19 [("options", .val (.list (l.map pairT)))] Q X = ((l.map pairT).length ≤ big ∧ ForK S19 (forTg (stAt 19 1)) (forBody (stAt 19 1)) (l.map pairT) [("options", .val (.list (l.map pairT))), ("out", .val (.bytes []))] (seqQ S19 (b19.drop 2) Q X)) := by kernel_rfl
theorem w19t (xs : List Tr) (o : List Int) (k : Int) (d : List Int) (N : Loc → Prop) (R : Tr → Loc → Prop) (M : PySem.Str → Tr → Loc → Prop) : TB S19 (forTg (stAt 19 1)) (forBody (stAt 19 1)) [("options", .val (.list xs)), ("out", .val (.bytes o)), ("kind", .val (.int k)), ("data", .val (.bytes d))] N R M =
  sOctets [.int k, .int 1] (fun b => augW .Add (.bytes o) b fun o' => ifW (decide (1 < k)) (d.length ≤ big ∧ sOctets [.int ((d.length : Int) + 2), .int 1] (fun b => binW .Add b (.bytes d) fun c => augW .Add o' c fun o'' => N [("options", .val (.list xs)), ("out", .val o'')]) (fun _ _ => False)) (N [("options", .val (.list xs)), ("out", .val o')])) (fun _ _ => False) := by kernel_rfl
theorem w19e (xs : List Tr) (o : List Int) (Q : Fl → Loc → Prop) (X : XE) : wpB S19 (b19.drop 2) [("options", .val (.list xs)), ("out", .val (.bytes o))] Q X = Q (.ret (.bytes o)) [("options", .val (.list xs)), ("out", .val (.bytes o))] := by kernel_rfl
include B in
theorem c_wopts : Contract prg w (g0 w.params) h₀ 5 (.ref 170) sWOpts :=
  mkC (n := 4) (ex := exN) (l := [("octets_of", .fn sOctets)]) (i := 19) (cd := 169) (name := "write_options") (names := ["options"]) (pym := .str "siftwall.ipv4" 302) B (by kernel_rfl) (by kernel_rfl) (fun vs h => by
    obtain ⟨a, rfl⟩ := len1 h
    kernel_rfl) (by kernel_rfl) exN_ok (.fn (by kernel_rfl) (by decide) (c_octets B) .nil) fun ts Q X h => by
    replace h := oneL_of h
    obtain ⟨xs, rfl, h⟩ := h
    · obtain ⟨l, rfl, ho, hl, hq⟩ := h
      refine ⟨rfl, use (w19 l _ _) ⟨by first | exact le_bigm (by assumption) | (rw [List.length_map, big_eq]; lia), forK_st (fun i => [("options", .val (.list (l.map pairT))), ("out", .val (.bytes (optL (l.take i))))]) rfl (fun i x hx N hN => ?_) ?_⟩⟩
      · rw [List.getElem?_map] at hx
        obtain ⟨⟨k, d⟩, hp, rfl⟩ := Option.map_eq_some_iff.mp hx
        obtain ⟨⟨k0, k1⟩, hd, hdl, hk⟩ := ho _ (List.mem_of_getElem? hp)
        dsimp only at k0 k1 hd hdl hk
        have hol := optL_len (optsOk_take ho i)
        have htl : (l.take i).length ≤ 10 := by rw [List.length_take]; lia
        rw [List.take_add_one, hp] at hN
        change N [("options", .val (.list (l.map pairT))), ("out", .val (.bytes (optL (l.take i ++ [(k, d)]))))] at hN
        rw [optL_snoc] at hN
        refine turn_of _ rfl (w19t _ _ k d _ _ _) (oct_in 1 rfl (by decide) k0 (by lia) ⟨rfl, by rw [be_len, big_eq]; lia, fun e => ⟨by first | exact le_big (by assumption) | (rw [big_eq]; lia), oct_in 1 rfl (by decide) (by lia) (by lia) ⟨rfl, by rw [be_len, big_eq]; lia, rfl, ?_, ?_⟩⟩, fun e => ?_⟩)
        · rw [List.length_append, List.length_append, be_len, be_len, big_eq]; lia
        · rw [if_pos (of_decide_eq_true e)] at hN
          rw [be_one k0 k1, be_one (by lia) (by lia), List.append_assoc]
          exact hN
        · rw [if_neg (of_decide_eq_false e)] at hN
          rw [be_one k0 k1]
          exact hN
      · rw [List.length_map, List.take_length]
        exact use (w19e _ _ _ _) hq

noncomputable abbrev b36 : List Stmt := (fnAt 36).2.1
theorem w36 (l : List (Int × List Int)) (Q : Fl → Loc → Prop) (X : XE) : wpB S0 b36 [("options", .val (.list (l.map pairT)))] Q X = ((l.map pairT).length ≤ big ∧ ForK S0 (forTg (stAt 36 1)) (forBody (stAt 36 1)) (l.map pairT) [("options", .val (.list (l.map pairT))), ("out", .mu (.list []))] (seqQ S0 (b36.drop 2) Q X)) := by kernel_rfl
theorem w36t (ys : List Tr) (xs : List Tr) (k : Int) (d : List Int) (N : Loc → Prop) (R : Tr → Loc → Prop) (M : PySem.Str → Tr → Loc → Prop) : TB S0 (forTg (stAt 36 1)) (forBody (stAt 36 1)) [("options", .val (.list ys)), ("out", .mu (.list xs)), ("kind", .val (.int k)), ("data", .val (.bytes d))] N R M =
  (("append" : PySem.Str) = "append" ∧ some (Slot.mu (Tr.list xs)) = some (Slot.mu (Tr.list xs)) ∧ xs.length < big ∧ CmpOp.NotIn = CmpOp.NotIn ∧ ∃ ns : List Int, [Tr.int 0, Tr.int 1] = ns.map Tr.int ∧ ifW (!ns.contains k)
    (d.length ≤ big ∧ Operator.Add = Operator.Add ∧ (xs ++ [Tr.int k]).length + 1 ≤ big ∧ d.length ≤ big ∧ (xs ++ [Tr.int k] ++ [Tr.int ((d.length : Int) + 2)]).length + (d.map Tr.int).length ≤ big ∧ N [("options", .val (.list ys)), ("out", .mu (.list (xs ++ [.int k] ++ [.int ((d.length : Int) + 2)] ++ d.map Tr.int)))])
    (N [("options", .val (.list ys)), ("out", .mu (.list (xs ++ [.int k])))])) := by kernel_rfl
theorem w36e (ys xs : List Tr) (Q : Fl → Loc → Prop) (X : XE) : wpB S0 (b36.drop 2) [("options", .val (.list ys)), ("out", .mu (.list xs))] Q X = Q (.retm "out" (.list xs)) [("options", .val (.list ys)), ("out", .mu (.list xs))] := by kernel_rfl
include B in
theorem c_ooctets : ContractN prg w (g0 w.params) h₀ 1 (.ref 280) sOOctets :=
  mkN (n := 0) (ex := exN) (l := []) (i := 36) (cd := 279) (name := "_law_options_octets") (names := ["options"]) (pym := .str "law_pf0339_01" 418) B (by kernel_rfl) (by kernel_rfl) (fun vs h => by
    obtain ⟨a, rfl⟩ := len1 h
    kernel_rfl) (by kernel_rfl) exN_ok .nil fun ts Q X h => by
    replace h := oneL_of h
    obtain ⟨xs, rfl, h⟩ := h
    · obtain ⟨l, rfl, ho, hl, hq⟩ := h
      refine ⟨rfl, use (w36 l _ _) ⟨by first | exact le_bigm (by assumption) | (rw [List.length_map, big_eq]; lia), forK_st (fun i => [("options", .val (.list (l.map pairT))), ("out", .mu (.list ((optL (l.take i)).map Tr.int)))]) rfl (fun i x hx N hN => ?_) ?_⟩⟩
      · rw [List.getElem?_map] at hx
        obtain ⟨⟨k, d⟩, hp, rfl⟩ := Option.map_eq_some_iff.mp hx
        obtain ⟨⟨k0, k1⟩, hd, hdl, hk⟩ := ho _ (List.mem_of_getElem? hp)
        dsimp only at k0 k1 hd hdl hk
        have hol := optL_len (optsOk_take ho i)
        have htl : (l.take i).length ≤ 10 := by rw [List.length_take]; lia
        rw [List.take_add_one, hp] at hN
        change N [("options", .val (.list (l.map pairT))), ("out", .mu (.list ((optL (l.take i ++ [(k, d)])).map Tr.int)))] at hN
        rw [optL_snoc] at hN
        refine turn_of _ rfl (w36t _ _ k d _ _ _) ⟨rfl, rfl, by first | exact le_bigm (by assumption) | (rw [List.length_map, big_eq]; lia), rfl, [0, 1], rfl, fun e => ⟨by first | exact le_big (by assumption) | (rw [big_eq]; lia), rfl, ?_, by first | exact le_big (by assumption) | (rw [big_eq]; lia), ?_, ?_⟩, fun e => ?_⟩
        · simp only [List.length_append, List.length_map, List.length_cons, List.length_nil]; rw [big_eq]; lia
        · simp only [List.length_append, List.length_map, List.length_cons, List.length_nil]; rw [big_eq]; lia
        · have := not_in01.mp e
          rw [if_pos (by show 1 < k; lia)] at hN
          rw [List.map_append] at hN
          simpa using hN
        · have : ¬ (k ≠ 0 ∧ k ≠ 1) := fun q => by rw [not_in01.mpr q] at e; cases e
          rw [if_neg (by show ¬ 1 < k; lia), List.map_append] at hN
          exact hN
      · rw [List.length_map, List.take_length]
        exact use (w36e _ _ _ _) hq

noncomputable abbrev S35 : Sig := sigOf exN [("_law_digit", .fn sDigit), ("_law_some", .new sSome)]
noncomputable abbrev b35 : List Stmt := (fnAt 35).2.1
noncomputable abbrev bb35 : List Stmt := forBody (stAt 35 1)
noncomputable abbrev kinds : List Int := [7, 148, 1, 0, 130, 68, 255, 2]
noncomputable abbrev l35 (ns : List Int) (xs : List Tr) (z : Loc) : Loc := ("script", .val (iL ns)) :: ("out", .mu (.list xs)) :: z
theorem w35 (ns : List Int) (Q : Fl → Loc → Prop) (X : XE) : wpB S35 b35 [("script", .val (iL ns))] Q X = (-(big : Int) ≤ 3 ∧ 3 ≤ (big : Int) ∧ ForK S35 (forTg (stAt 35 1)) bb35 ((rangeL 0 3 1).map Tr.int) (l35 ns [] []) (seqQ S35 (b35.drop 2) Q X)) := by kernel_rfl
end
end Mine
end
section
open PySem PySem.W PySem.Spec PySem.Calls PyProof.Rows
set_option Elab.async false
namespace Mine
set_option tactic.hygienic false
set_option maxRecDepth 100000
theorem someL_oct (d : Int) (m : Nat) (s : Int) : oct (someL d m s) := fun x hx => by
  obtain ⟨k, _, rfl⟩ := List.mem_map.mp hx
  exact ⟨Int.emod_nonneg _ (by decide), Int.emod_lt_of_pos _ (by decide)⟩
theorem someL_len (d : Int) (m : Nat) (s : Int) : (someL d m s).length = m := by unfold someL; rw [List.length_map, List.length_range]
/-- what follows a turn -/
noncomputable def TQ (tg : Expr) (N : Loc → Prop) (R : Tr → Loc → Prop) (M : PySem.Str → Tr → Loc → Prop) : Fl → Loc → Prop := fun fl ρ3 => match fl with
    | .ret t => R t ρ3
    | .retm x t => M x t ρ3
    | _ => N (dels (namesIn tg) ρ3)
theorem tb_eq {Γ : Sig} {tg : Expr} {body : List Stmt} {ρ : Loc} {N : Loc → Prop} {R : Tr → Loc → Prop} {M : PySem.Str → Tr → Loc → Prop} : TB Γ tg body ρ N R M = wpB Γ (body.drop 0) ρ (TQ tg N R M) (fun _ _ _ => False) := rfl
/-- bytes of a list of ints -/
noncomputable def byW (xs : List Tr) (K : List Int → Prop) : Prop := ∃ ns : List Int, xs = ns.map Tr.int ∧ (∀ n ∈ ns, 0 ≤ n ∧ n < 256) ∧ ns.length ≤ big ∧ K ns
theorem byW_of {ks : List Int} {K : List Int → Prop} (ho : oct ks) (hl : ks.length ≤ 10000) (h : K ks) : byW (ks.map Tr.int) K := ⟨ks, rfl, ho, by first | exact le_big (by assumption) | (rw [big_eq]; lia), h⟩
section
variable {w : World} {h₀ : Heap} (B : Base prg w (kf w.params) h₀)
theorem w35a0 (ns : List Int) (xs : List Tr) (k : Int) (Q : Fl → Loc → Prop) (X : XE) : wpB S35 ((bb35.drop 0).take 1) (l35 ns xs [("k", .val (.int k))]) Q X = ∃ ns1 : List Int, ns.map Tr.int = ns1.map Tr.int ∧ ns1.length ≤ 1000 ∧ 0 ≤ 26 + k ∧ Q .next (l35 ns xs [("k", .val (.int k)), ("digit", .val (.int (dig ns1 (26 + k).toNat)))]) := by kernel_rfl
theorem w35a1 (ns : List Int) (xs : List Tr) (k D : Int) (Q : Fl → Loc → Prop) (X : XE) : wpB S35 ((bb35.drop 1).take 1) (l35 ns xs [("k", .val (.int k)), ("digit", .val (.int D))]) Q X = (0 < (8 : Int) ∧ itT kinds ((D + k) % 8) fun t => Q .next (l35 ns xs [("k", .val (.int k)), ("digit", .val (.int D)), ("kind", .val t)])) := by kernel_rfl
theorem w35a2 (ns : List Int) (xs : List Tr) (k D Kd : Int) (Q : Fl → Loc → Prop) (X : XE) : wpB S35 ((bb35.drop 2).take 1) (l35 ns xs [("k", .val (.int k)), ("digit", .val (.int D)), ("kind", .val (.int Kd))]) Q X = ifW (decide (Kd < 2)) (Q .next (l35 ns xs [("k", .val (.int k)), ("digit", .val (.int D)), ("kind", .val (.int Kd)), ("many", .val (.int 0))])) (0 < (8 : Int) ∧ (8 : Int).natAbs.log2 < 9000 ∧ 0 < (4 : Int) ∧ Q .next (l35 ns xs [("k", .val (.int k)), ("digit", .val (.int D)), ("kind", .val (.int Kd)), ("many", .val (.int ((D / 8 + 2 - k) % 4)))])) := by kernel_rfl
theorem w35a3 (ns : List Int) (xs : List Tr) (k D Kd M : Int) (Q : Fl → Loc → Prop) (X : XE) : wpB S35 ((bb35.drop 3).take 1) (l35 ns xs [("k", .val (.int k)), ("digit", .val (.int D)), ("kind", .val (.int Kd)), ("many", .val (.int M))]) Q X = (("append" : PySem.Str) = "append" ∧ 0 < (32 : Int) ∧ (32 : Int).natAbs.log2 < 9000 ∧ 0 ≤ M ∧ M ≤ 1000 ∧ byW ((someL (D / 32) M.toNat 3).map Tr.int) fun o => some (Slot.mu (Tr.list xs)) = some (Slot.mu (Tr.list xs)) ∧ xs.length < big ∧ Q .next (l35 ns (xs ++ [.tup [.int Kd, .bytes o]]) [("k", .val (.int k)), ("digit", .val (.int D)), ("kind", .val (.int Kd)), ("many", .val (.int M))])) := by kernel_rfl
theorem w35a4 (ns : List Int) (xs : List Tr) (k D Kd M : Int) (N : Loc → Prop) (R : Tr → Loc → Prop) (F : PySem.Str → Tr → Loc → Prop) (X : XE) : seqQ S35 (bb35.drop 4) (TQ (forTg (stAt 35 1)) N R F) X .next (l35 ns xs [("k", .val (.int k)), ("digit", .val (.int D)), ("kind", .val (.int Kd)), ("many", .val (.int M))]) = N (l35 ns xs [("digit", .val (.int D)), ("kind", .val (.int Kd)), ("many", .val (.int M))]) := by kernel_rfl
theorem w35b0 (ns : List Int) (xs : List Tr) (k : Int) (d0 k0 m0 : Tr) (Q : Fl → Loc → Prop) (X : XE) : wpB S35 ((bb35.drop 0).take 1) (l35 ns xs [("digit", .val d0), ("kind", .val k0), ("many", .val m0), ("k", .val (.int k))]) Q X = ∃ ns1 : List Int, ns.map Tr.int = ns1.map Tr.int ∧ ns1.length ≤ 1000 ∧ 0 ≤ 26 + k ∧ Q .next (l35 ns xs [("digit", .val (.int (dig ns1 (26 + k).toNat))), ("kind", .val k0), ("many", .val m0), ("k", .val (.int k))]) := by kernel_rfl
theorem w35b1 (ns : List Int) (xs : List Tr) (k D : Int) (k0 m0 : Tr) (Q : Fl → Loc → Prop) (X : XE) : wpB S35 ((bb35.drop 1).take 1) (l35 ns xs [("digit", .val (.int D)), ("kind", .val k0), ("many", .val m0), ("k", .val (.int k))]) Q X = (0 < (8 : Int) ∧ itT kinds ((D + k) % 8) fun t => Q .next (l35 ns xs [("digit", .val (.int D)), ("kind", .val t), ("many", .val m0), ("k", .val (.int k))])) := by kernel_rfl
theorem w35b2 (ns : List Int) (xs : List Tr) (k D Kd : Int) (m0 : Tr) (Q : Fl → Loc → Prop) (X : XE) : wpB S35 ((bb35.drop 2).take 1) (l35 ns xs [("digit", .val (.int D)), ("kind", .val (.int Kd)), ("many", .val m0), ("k", .val (.int k))]) Q X = ifW (decide (Kd < 2)) (Q .next (l35 ns xs [("digit", .val (.int D)), ("kind", .val (.int Kd)), ("many", .val (.int 0)), ("k", .val (.int k))])) (0 < (8 : Int) ∧ (8 : Int).natAbs.log2 < 9000 ∧ 0 < (4 : Int) ∧ Q .next (l35 ns xs [("digit", .val (.int D)), ("kind", .val (.int Kd)), ("many", .val (.int ((D / 8 + 2 - k) % 4))), ("k", .val (.int k))])) := by kernel_rfl
theorem w35b3 (ns : List Int) (xs : List Tr) (k D Kd M : Int) (Q : Fl → Loc → Prop) (X : XE) : wpB S35 ((bb35.drop 3).take 1) (l35 ns xs [("digit", .val (.int D)), ("kind", .val (.int Kd)), ("many", .val (.int M)), ("k", .val (.int k))]) Q X = (("append" : PySem.Str) = "append" ∧ 0 < (32 : Int) ∧ (32 : Int).natAbs.log2 < 9000 ∧ 0 ≤ M ∧ M ≤ 1000 ∧ byW ((someL (D / 32) M.toNat 3).map Tr.int) fun o => some (Slot.mu (Tr.list xs)) = some (Slot.mu (Tr.list xs)) ∧ xs.length < big ∧ Q .next (l35 ns (xs ++ [.tup [.int Kd, .bytes o]]) [("digit", .val (.int D)), ("kind", .val (.int Kd)), ("many", .val (.int M)), ("k", .val (.int k))])) := by kernel_rfl
theorem w35b4 (ns : List Int) (xs : List Tr) (k D Kd M : Int) (N : Loc → Prop) (R : Tr → Loc → Prop) (F : PySem.Str → Tr → Loc → Prop) (X : XE) : seqQ S35 (bb35.drop 4) (TQ (forTg (stAt 35 1)) N R F) X .next (l35 ns xs [("digit", .val (.int D)), ("kind", .val (.int Kd)), ("many", .val (.int M)), ("k", .val (.int k))]) = N (l35 ns xs [("digit", .val (.int D)), ("kind", .val (.int Kd)), ("many", .val (.int M))]) := by kernel_rfl
theorem t35a {ns : List Int} {xs : List Tr} {k : Int} (hl : ns.length ≤ 1000) (hx : xs.length ≤ 100) (hk : 0 ≤ k ∧ k ≤ 10) {N : Loc → Prop} {R : Tr → Loc → Prop} {F : PySem.Str → Tr → Loc → Prop} (h : ∀ D Kd M o, (0 ≤ Kd ∧ Kd < 256) → oct o → o.length ≤ 4 → (Kd ≤ 1 → o = []) → N (l35 ns (xs ++ [.tup [.int Kd, .bytes o]]) [("digit", .val (.int D)), ("kind", .val (.int Kd)), ("many", .val (.int M))])) :
    wpB S35 (bb35.drop 0) (l35 ns xs [("k", .val (.int k))]) (TQ (forTg (stAt 35 1)) N R F) (fun _ _ _ => False) := by
  have hb : xs.length < big := by first | exact le_big (by assumption) | (rw [big_eq]; lia)
  refine cut1 0 (use (w35a0 ns xs k _ _) ⟨ns, rfl, hl, by lia, ?_⟩)
  generalize dig ns (26 + k).toNat = D
  refine cut1 1 (use (w35a1 ns xs k D _ _) ⟨by decide, itT_at (by decide) (by lia) (by show (D + k) % 8 < 8; lia) ?_⟩)
  have hkd : 0 ≤ dig kinds ((D + k) % 8).toNat ∧ dig kinds ((D + k) % 8).toNat < 256 := dig_oct (by unfold oct; decide) _
  generalize dig kinds ((D + k) % 8).toNat = Kd at *
  refine cut1 2 (use (w35a2 ns xs k D Kd _ _) ⟨fun e => ?_, fun e => ⟨by decide, by decide +kernel, by decide, ?_⟩⟩)
  · refine cut1 3 (use (w35a3 ns xs k D Kd 0 _ _) ⟨rfl, by decide, by decide +kernel, by decide, by decide, byW_of (someL_oct _ _ _) (by rw [someL_len]; decide) ⟨rfl, hb, use (w35a4 ns _ k D Kd 0 N R F _) (h D Kd 0 _ hkd (someL_oct _ _ _) (by rw [someL_len]; decide) fun _ => rfl)⟩⟩)
  · have e' := of_decide_eq_false e
    have hm : 0 ≤ (D / 8 + 2 - k) % 4 ∧ (D / 8 + 2 - k) % 4 < 4 := by lia
    generalize (D / 8 + 2 - k) % 4 = M at *
    exact cut1 3 (use (w35a3 ns xs k D Kd M _ _) ⟨rfl, by decide, by decide +kernel, hm.1, by lia, byW_of (someL_oct _ _ _) (by rw [someL_len]; lia) ⟨rfl, hb, use (w35a4 ns _ k D Kd M N R F _) (h D Kd M _ hkd (someL_oct _ _ _) (by rw [someL_len]; lia) fun q => absurd q (by lia))⟩⟩)
theorem t35b {ns : List Int} {xs : List Tr} {k : Int} (d0 k0 m0 : Tr) (hl : ns.length ≤ 1000) (hx : xs.length ≤ 100) (hk : 0 ≤ k ∧ k ≤ 10) {N : Loc → Prop} {R : Tr → Loc → Prop} {F : PySem.Str → Tr → Loc → Prop} (h : ∀ D Kd M o, (0 ≤ Kd ∧ Kd < 256) → oct o → o.length ≤ 4 → (Kd ≤ 1 → o = []) → N (l35 ns (xs ++ [.tup [.int Kd, .bytes o]]) [("digit", .val (.int D)), ("kind", .val (.int Kd)), ("many", .val (.int M))])) :
    wpB S35 (bb35.drop 0) (l35 ns xs [("digit", .val d0), ("kind", .val k0), ("many", .val m0), ("k", .val (.int k))]) (TQ (forTg (stAt 35 1)) N R F) (fun _ _ _ => False) := by
  have hb : xs.length < big := by first | exact le_big (by assumption) | (rw [big_eq]; lia)
  refine cut1 0 (use (w35b0 ns xs k _ _ _ _ _) ⟨ns, rfl, hl, by lia, ?_⟩)
  generalize dig ns (26 + k).toNat = D
  refine cut1 1 (use (w35b1 ns xs k D _ _ _ _) ⟨by decide, itT_at (by decide) (by lia) (by show (D + k) % 8 < 8; lia) ?_⟩)
  have hkd : 0 ≤ dig kinds ((D + k) % 8).toNat ∧ dig kinds ((D + k) % 8).toNat < 256 := dig_oct (by unfold oct; decide) _
  generalize dig kinds ((D + k) % 8).toNat = Kd at *
  refine cut1 2 (use (w35b2 ns xs k D Kd _ _ _) ⟨fun e => ?_, fun e => ⟨by decide, by decide +kernel, by decide, ?_⟩⟩)
  · refine cut1 3 (use (w35b3 ns xs k D Kd 0 _ _) ⟨rfl, by decide, by decide +kernel, by decide, by decide, byW_of (someL_oct _ _ _) (by rw [someL_len]; decide) ⟨rfl, hb, use (w35b4 ns _ k D Kd 0 N R F _) (h D Kd 0 _ hkd (someL_oct _ _ _) (by rw [someL_len]; decide) fun _ => rfl)⟩⟩)
  · have e' := of_decide_eq_false e
    have hm : 0 ≤ (D / 8 + 2 - k) % 4 ∧ (D / 8 + 2 - k) % 4 < 4 := by lia
    generalize (D / 8 + 2 - k) % 4 = M at *
    exact cut1 3 (use (w35b3 ns xs k D Kd M _ _) ⟨rfl, by decide, by decide +kernel, hm.1, by lia, byW_of (someL_oct _ _ _) (by rw [someL_len]; lia) ⟨rfl, hb, use (w35b4 ns _ k D Kd M N R F _) (h D Kd M _ hkd (someL_oct _ _ _) (by rw [someL_len]; lia) fun q => absurd q (by lia))⟩⟩)
theorem w35e (ns : List Int) (xs : List Tr) (z : Loc) (Q : Fl → Loc → Prop) (X : XE) : wpB S35 (b35.drop 2) (l35 ns xs z) Q X = Q (.retm "out" (.list xs)) (l35 ns xs z) := by kernel_rfl
include B in
theorem c_drawn : ContractN prg w (g0 w.params) h₀ 2 (.ref 273) sDrawn :=
  mkN (n := 1) (ex := exN) (l := [("_law_digit", .fn sDigit), ("_law_some", .new sSome)]) (i := 35) (cd := 272) (name := "_law_drawn_options") (names := ["script"]) (pym := .str "law_pf0339_01" 418) B (by kernel_rfl) (by kernel_rfl) (fun vs h => by
    obtain ⟨a, rfl⟩ := len1 h
    kernel_rfl) (by kernel_rfl) exN_ok (.fn (by kernel_rfl) (by decide) (c_digit B) (.new (by kernel_rfl) (by decide) (c_some B) .nil)) fun ts Q X h => by
    replace h := oneL_of h
    obtain ⟨xs, rfl, h⟩ := h
    · obtain ⟨ns, rfl, hl, hq⟩ := h
      refine ⟨rfl, use (w35 ns _ _) ⟨by decide +kernel, by decide +kernel, forK_of (σ := List (Int × List Int) × Option (Tr × Tr × Tr)) (fun i s => optsOk s.1 ∧ s.1.length = i ∧ (s.2 = none → i = 0)) (fun s => match s.2 with
        | none => l35 ns (s.1.map pairT) []
        | some (d, k, m) => l35 ns (s.1.map pairT) [("digit", .val d), ("kind", .val k), ("many", .val m)]) ([], none) rfl ⟨fun p hp => (nomatch hp), rfl, fun _ => rfl⟩ (fun i x s hx hs => ?_) fun s hs => ?_⟩⟩
      · obtain ⟨l, z⟩ := s
        obtain ⟨ho, hi, hz⟩ := hs
        dsimp only at ho hi hz
        have hx' : i < 3 ∧ x = .int (i : Int) := by
          match i, hx with
          | 0, hx => cases hx; exact ⟨by decide, rfl⟩
          | 1, hx => cases hx; exact ⟨by decide, rfl⟩
          | 2, hx => cases hx; exact ⟨by decide, rfl⟩
        obtain ⟨hi3, rfl⟩ := hx'
        have nx : ∀ D Kd M (o : List Int), (0 ≤ Kd ∧ Kd < 256) → oct o → o.length ≤ 4 → (Kd ≤ 1 → o = []) → ∃ s' : List (Int × List Int) × Option (Tr × Tr × Tr), l35 ns (l.map pairT ++ [.tup [.int Kd, .bytes o]]) [("digit", .val (.int D)), ("kind", .val (.int Kd)), ("many", .val (.int M))] = (match s'.2 with
            | none => l35 ns (s'.1.map pairT) []
            | some (d, k, m) => l35 ns (s'.1.map pairT) [("digit", .val d), ("kind", .val k), ("many", .val m)]) ∧ optsOk s'.1 ∧ s'.1.length = i + 1 ∧ (s'.2 = none → i + 1 = 0) := fun D Kd M o h1 h2 h3 h4 =>
          ⟨(l ++ [(Kd, o)], some (.int D, .int Kd, .int M)), by simp, fun p hp => by
            rcases List.mem_append.mp hp with hp | hp
            · exact ho p hp
            · rw [List.mem_singleton.mp hp]; exact ⟨h1, h2, h3, h4⟩, by simp [hi], fun q => nomatch q⟩
        have hml : (l.map pairT).length ≤ 100 := by rw [List.length_map]; lia
        cases z with
        | none => exact turn_of (l35 ns (l.map pairT) [("k", .val (.int i))]) (by kernel_rfl) tb_eq (t35a hl hml (by lia) nx)
        | some z =>
          obtain ⟨d, k, m⟩ := z
          exact turn_of (l35 ns (l.map pairT) [("digit", .val d), ("kind", .val k), ("many", .val m), ("k", .val (.int i))]) (by kernel_rfl) tb_eq (t35b d k m hl hml (by lia) nx)
      · obtain ⟨l, z⟩ := s
        obtain ⟨ho, hi, hz⟩ := hs
        cases z with
        | none => exact use (w35e ns _ _ _ _) (hq l ho hi)
        | some z =>
          obtain ⟨d, k, m⟩ := z
          exact use (w35e ns _ _ _ _) (hq l ho hi)

noncomputable abbrev S37 (n : Nat) : Sig := sigOf exN [("_law_due_options", .fn (sDue n))]
noncomputable abbrev b37 : List Stmt := (fnAt 37).2.1
noncomputable abbrev l37 (ks : List Int) (wd : Tr) : Loc := [("octets", .val (iL ks)), ("wide", .val wd)]
noncomputable abbrev l37b (ks : List Int) (wd : Int) (t : Tr) : Loc := [("octets", .val (iL ks)), ("wide", .val (.int wd)), ("behind", .val t)]
theorem w37_0 (n : Nat) (ks : List Int) (Q : Fl → Loc → Prop) (X : XE) : wpB (S37 n) ((b37.drop 0).take 1) (l32 ks) Q X = (okT 3 (iL ks) (.list []) ∧ orW (eqT 3 (iL ks) (.list [])) (itT ks 0 fun x => cmpW .Eq x (.int 0) fun c => orW c (ifW false (Q (.ret (.list [])) (l32 ks)) (Q .next (l32 ks))) (fun c => ifW c (Q (.ret (.list [])) (l32 ks)) (Q .next (l32 ks)))) (fun c => ifW c (Q (.ret (.list [])) (l32 ks)) (Q .next (l32 ks)))) := by kernel_rfl
theorem w37_1 (n : Nat) (ks : List Int) (Q : Fl → Loc → Prop) (X : XE) : wpB (S37 n) ((b37.drop 1).take 1) (l32 ks) Q X = itT ks 0 fun x => cmpW .Eq x (.int 1) fun c => ifW c (Q .next (l37 ks (.int 1))) ((ks.map Tr.int).length ≤ big ∧ ifW (((ks.map Tr.int).length : Int) == 1) (Q .next (l37 ks (.int 0))) (itT ks 1 fun y => Q .next (l37 ks y))) := by kernel_rfl
theorem w37_2 (n : Nat) (ks : List Int) (wd : Int) (Q : Fl → Loc → Prop) (X : XE) : wpB (S37 n) ((b37.drop 2).take 1) (l37 ks (.int wd)) Q X = ((ks.map Tr.int).length ≤ big ∧ orW (decide (((ks.map Tr.int).length : Int) < wd))
  (andW (decide (wd < 2)) (itT ks 0 fun x => cmpW .NotEq x (.int 1) fun c => andW c (orW true (ifW false (Q (.ret .none) (l37 ks (.int wd))) (Q .next (l37 ks (.int wd)))) (fun c => ifW c (Q (.ret .none) (l37 ks (.int wd))) (Q .next (l37 ks (.int wd))))) (fun c => orW c (ifW false (Q (.ret .none) (l37 ks (.int wd))) (Q .next (l37 ks (.int wd)))) (fun c => ifW c (Q (.ret .none) (l37 ks (.int wd))) (Q .next (l37 ks (.int wd)))))) (fun c => orW c (ifW false (Q (.ret .none) (l37 ks (.int wd))) (Q .next (l37 ks (.int wd)))) (fun c => ifW c (Q (.ret .none) (l37 ks (.int wd))) (Q .next (l37 ks (.int wd))))))
  (fun c => ifW c (Q (.ret .none) (l37 ks (.int wd))) (Q .next (l37 ks (.int wd))))) := by kernel_rfl
theorem w37_3 (n : Nat) (ks : List Int) (wd : Int) (Q : Fl → Loc → Prop) (X : XE) : wpB (S37 n) ((b37.drop 3).take 1) (l37 ks (.int wd)) Q X = (0 ≤ wd ∧ True ∧ (ks.map Tr.int).length ≤ big ∧ sDue n [.list (((ks.map Tr.int).take (ks.map Tr.int).length).drop wd.toNat)] (fun t => Q .next (l37b ks wd t)) (fun c y => X c y (l37 ks (.int wd)))) := by kernel_rfl
theorem w37_4n (n : Nat) (ks : List Int) (wd : Int) (Q : Fl → Loc → Prop) (X : XE) : wpB (S37 n) (b37.drop 4) (l37b ks wd .none) Q X = ifW true (Q (.ret .none) (l37b ks wd .none)) (itT ks 0 fun _ => bsW ks 2 wd fun _ => False) := by kernel_rfl
theorem w37_4 (n : Nat) (ks : List Int) (wd : Int) (bs : List Tr) (Q : Fl → Loc → Prop) (X : XE) : wpB (S37 n) (b37.drop 4) (l37b ks wd (.list bs)) Q X = ifW false (Q (.ret .none) (l37b ks wd (.list bs))) (itT ks 0 fun x => bsW ks 2 wd fun d => Operator.Add = Operator.Add ∧ 1 + bs.length ≤ big ∧ Q (.ret (.list (.tup [x, .bytes d] :: bs))) (l37b ks wd (.list bs))) := by kernel_rfl
theorem okT_nil (ks : List Int) : okT 3 (iL ks) (.list []) := by
  cases ks with
  | nil => exact fun _ => trivial
  | cons k r => exact fun h => nomatch h
theorem eqT_nil (ks : List Int) : eqT 3 (iL ks) (.list []) = decide (ks = []) := by
  cases ks <;> rfl
theorem due_len {n : Nat} : ∀ {ks : List Int} {l : List (Int × List Int)}, ks.length ≤ n → due ks = some l → l.length ≤ n := by
  induction n with
  | zero =>
    intro ks l h e
    have : ks = [] := List.length_eq_zero_iff.mp (by lia)
    rw [due, dif_pos this] at e
    cases e
    exact Nat.le_refl _
  | succ n ih =>
    intro ks l h e
    rw [due] at e
    split at e
    · cases e; exact Nat.zero_le _
    · rename_i hn
      have hp : ks.length ≠ 0 := fun q => hn (List.length_eq_zero_iff.mp q)
      split at e
      · cases e; exact Nat.zero_le _
      · split at e
        · obtain ⟨l', h', rfl⟩ := Option.map_eq_some_iff.mp e
          have := ih (by rw [List.length_drop]; lia) h'
          simp only [List.length_cons]; lia
        · split at e
          · cases e
          · rename_i hb
            obtain ⟨l', h', rfl⟩ := Option.map_eq_some_iff.mp e
            have := ih (by rw [List.length_drop]; lia) h'
            simp only [List.length_cons]; lia
include B in
theorem c_due : ∀ n, Contract prg w (g0 w.params) h₀ (n + 1) (.ref 287) (sDue n)
  | 0 => by
    intro k hr S I d h q x
    exact h.elim
  | n + 1 =>
  mkC (n := n + 1) (ex := exN) (l := [("_law_due_options", .fn (sDue n))]) (i := 37) (cd := 286) (name := "_law_due_options") (names := ["octets"]) (pym := .str "law_pf0339_01" 418) B (by kernel_rfl) (by kernel_rfl) (fun vs h => by
    obtain ⟨a, rfl⟩ := len1 h
    kernel_rfl) (by kernel_rfl) exN_ok (.fn (by kernel_rfl) (Nat.le_refl _) (c_due n) .nil) fun ts Q X h => by
    change sDue1 n ts Q X at h
    replace h := oneL_of h
    obtain ⟨xs, rfl, h⟩ := h
    · obtain ⟨ks, rfl, ho, hn, hl, hq⟩ := h
      have hm : (ks.map Tr.int).length = ks.length := List.length_map _
      have hz : (ks.map Tr.int).length ≤ big := by first | exact le_big (by assumption) | (rw [big_eq]; lia)
      refine ⟨rfl, show wpB (S37 n) (b37.drop 0) (l32 ks) _ _ from cut1 0 (use (w37_0 n ks _ _) ⟨okT_nil ks, or_cut (fun e => ?_) fun e => ?_⟩)⟩
      · rw [eqT_nil] at e
        have e' := of_decide_eq_true e
        unfold dueT at hq
        rw [due, dif_pos e'] at hq
        exact hq
      rw [eqT_nil] at e
      have hne := of_decide_eq_false e
      have hp : 0 < ks.length := Nat.pos_of_ne_zero fun q => hne (List.length_eq_zero_iff.mp q)
      have hd := due.eq_1 ks
      rw [dif_neg hne] at hd
      refine itT_of 0 hl hp (or_last (fun e0 => ?_) fun e0 => ?_)
      · rw [if_pos (by simpa using e0)] at hd
        unfold dueT at hq
        rw [hd] at hq
        exact hq
      rw [if_neg (by simpa using e0)] at hd
      have g0' := dig_oct ho 0
      have g1' := dig_oct ho 1
      -- the statements behind the width
      have rest : ∀ wd : Int, 1 ≤ wd → wd ≤ ks.length → due ks = (due (ks.drop wd.toNat)).map ((dig ks 0, sl ks 2 wd.toNat) :: ·) → wpB (S37 n) (b37.drop 3) (l37 ks (.int wd)) (endQ Q) (fun C y _ => X C y) := fun wd w1 w2 hdw => by
        obtain ⟨m, rfl⟩ : ∃ m, n = m + 1 := ⟨n - 1, by lia⟩
        refine cut1 3 (use (w37_3 (m + 1) ks wd _ _) ⟨by lia, trivial, hz, ks.drop wd.toNat, ?_, oct_drop ho _, by rw [List.length_drop]; lia, by rw [List.length_drop]; lia, ?_⟩)
        · rw [List.take_length, List.map_drop]
        have hbl := @due_len (ks.drop wd.toNat).length (ks.drop wd.toNat)
        rw [List.length_drop] at hbl
        unfold dueT at hq ⊢
        rw [hdw] at hq
        cases hb : due (ks.drop wd.toNat) with
        | none =>
          rw [hb] at hq
          exact use (w37_4n (m + 1) ks wd _ _) ⟨fun _ => hq, fun q => (nomatch q)⟩
        | some l =>
          rw [hb] at hq
          have := hbl (Nat.le_refl _) hb
          exact use (w37_4 (m + 1) ks wd _ _ _) ⟨fun q => (nomatch q), fun _ => itT_of 0 hl hp (bsW_of ho hl (by decide) (by lia) ⟨rfl, by first | exact le_bigm (by assumption) | (rw [List.length_map, big_eq]; lia), hq⟩)⟩
      have none_ : due ks = none → Q .none := fun q => by unfold dueT at hq; rw [q] at hq; exact hq
      refine cut1 1 (use (w37_1 n ks _ _) (itT_of 0 hl hp ⟨fun e1 => ?_, fun e1 => ⟨hz, fun e2 => ?_, fun e2 => ?_⟩⟩))
      · have e1' : dig ks 0 = 1 := by simpa using e1
        rw [if_pos e1'] at hd
        refine cut1 2 (use (w37_2 n ks 1 _ _) ⟨hz, or_cut (fun q => ?_) fun q => ⟨fun _ => itT_of 0 hl hp ⟨fun q2 => absurd e1' (bne_iff_ne.mp q2), fun q2 => ?_⟩, fun q => (nomatch q)⟩⟩)
        · have := of_decide_eq_true q; lia
        · rw [q2]
          refine or_last (fun q => (nomatch q)) fun _ => rest 1 (by decide) (by lia) ?_
          rw [hd, e1']
          have : sl ks 2 (1 : Int).toNat = [] := by
            unfold sl
            exact List.drop_eq_nil_of_le (by rw [List.length_take]; show min 1 _ ≤ 2; lia)
          rw [this]
          rfl
      · have e1' : ¬ dig ks 0 = 1 := by simpa using e1
        have e2' : ks.length = 1 := by rw [hm] at e2; have := beq_iff_eq.mp e2; lia
        rw [if_neg e1', dif_pos (.inl (by lia))] at hd
        refine cut1 2 (use (w37_2 n ks 0 _ _) ⟨hz, or_cut (fun q => none_ hd) fun q => ⟨fun _ => itT_of 0 hl hp ⟨fun q2 => ?_, fun q2 => absurd e1' (by simpa using q2)⟩, fun q => (nomatch q)⟩⟩)
        exact or_last (fun _ => none_ hd) fun q => (nomatch q)
      · have e1' : ¬ dig ks 0 = 1 := by simpa using e1
        have e2' : ks.length ≠ 1 := fun q => by rw [hm] at e2; have := beq_eq_false_iff_ne.mp e2; lia
        rw [if_neg e1'] at hd
        refine itT_of 1 hl (by lia) ?_
        have bad : (dig ks 1 < 2 ∨ (ks.length : Int) < dig ks 1) → Q .none := fun q => none_ (by rw [hd, dif_pos (by lia)])
        refine cut1 2 (use (w37_2 n ks (dig ks 1) _ _) ⟨hz, or_cut (fun q => bad (.inr ?_)) fun q => ⟨fun q3 => itT_of 0 hl hp ⟨fun q2 => ?_, fun q2 => absurd e1' (by simpa using q2)⟩, fun q3 => ?_⟩⟩)
        · have := of_decide_eq_true q; lia
        · exact or_last (fun _ => bad (.inl (of_decide_eq_true q3))) fun q => (nomatch q)
        · rw [q3]
          have q' := of_decide_eq_false q
          have q3' := of_decide_eq_false q3
          refine or_last (fun q => (nomatch q)) fun _ => rest _ (by lia) (by lia) ?_
          rw [hd, dif_neg (by lia)]
end
end Mine
end
section
open PySem PySem.W PySem.Spec PySem.Calls PyProof.Rows
set_option Elab.async false
namespace Mine
set_option tactic.hygienic false
set_option maxRecDepth 100000
noncomputable abbrev Nine.list (x : Nine) : List Int := [x.a, x.b, x.c, x.d, x.e, x.f, x.g, x.h, x.i]
noncomputable abbrev tops : List Int := [2 ^ 32, 2 ^ 32, 256, 256, 65536, 8, 65529, 64, 4]
noncomputable abbrev noFitT : Tr := .tup [.str "Misused", .str "the number does not fit its octets"]
noncomputable abbrev oddT : Tr := .tup [.str "Misused", .str "no such field of an IPv4 head"]
section
variable {w : World} {h₀ : Heap} (B : Base prg w (kf w.params) h₀)
noncomputable abbrev S28 : Sig := sigOf exN [("_law_head", .fn sHead2)]
noncomputable abbrev b28 : List Stmt := (fnAt 28).2.1
noncomputable abbrev bb28 : List Stmt := forBody (stAt 28 3)
noncomputable abbrev l28 (x : Nine) (o d : List Int) : Loc := [("fields", .val x.tr), ("options", .val (iL o)), ("data", .val (iL d))]
noncomputable abbrev l28t (x : Nine) (o d : List Int) : Loc := [("fields", .val x.tr), ("options", .val (iL o)), ("data", .val (iL d)), ("tops", .mu (iL tops))]
noncomputable abbrev l28k (x : Nine) (o d : List Int) (k : Int) : Loc := [("fields", .val x.tr), ("options", .val (iL o)), ("data", .val (iL d)), ("tops", .mu (iL tops)), ("k", .val (.int k))]
noncomputable abbrev l28e (x : Nine) (o d : List Int) (t : Int) : Loc := [("fields", .val x.tr), ("options", .val (iL o)), ("data", .val (iL d)), ("tops", .mu (iL tops)), ("total", .val (.int t))]
theorem w28_0 (x : Nine) (o d : List Int) (Q : Fl → Loc → Prop) (X : XE) : wpB S28 ((b28.drop 0).take 1) (l28 x o d) Q X = (binW .Pow (.int 2) (.int 32) fun p => binW .Pow (.int 2) (.int 32) fun q => Q .next [("fields", .val x.tr), ("options", .val (iL o)), ("data", .val (iL d)), ("tops", .mu (.list [p, q, .int 256, .int 256, .int 65536, .int 8, .int 65529, .int 64, .int 4]))]) := by kernel_rfl
theorem w28_1 (x : Nine) (o d : List Int) (Q : Fl → Loc → Prop) (X : XE) : wpB S28 ((b28.drop 1).take 1) (l28t x o d) Q X = ((o.map Tr.int).length ≤ big ∧ ifW (decide (40 < ((o.map Tr.int).length : Int))) (Q (.ret (.tup [.str "BadPacket", .str "options too long"])) (l28t x o d)) (Q .next (l28t x o d))) := by kernel_rfl
theorem w28_2 (x : Nine) (o d : List Int) (Q : Fl → Loc → Prop) (X : XE) : wpB S28 ((b28.drop 2).take 1) (l28t x o d) Q X =
  (0 ≤ (5 : Int) ∧ (5 : Int) < big ∧ ∃ t, some (Tr.int x.f) = some t ∧ cmpW .Gt t (.int 7) fun c => orW c (0 ≤ (6 : Int) ∧ (6 : Int) < big ∧ ∃ t, some (Tr.int x.g) = some t ∧ cmpW .Gt t (.int 65528) fun c => orW c (0 ≤ (6 : Int) ∧ (6 : Int) < big ∧ ∃ t, some (Tr.int x.g) = some t ∧ binW .Mod t (.int 8) fun t => cmpW .NotEq t (.int 0) fun c => orW c
    (0 ≤ (7 : Int) ∧ (7 : Int) < big ∧ ∃ t, some (Tr.int x.h) = some t ∧ cmpW .Gt t (.int 63) fun c => orW c (0 ≤ (8 : Int) ∧ (8 : Int) < big ∧ ∃ t, some (Tr.int x.i) = some t ∧ cmpW .Gt t (.int 3) fun c => orW c
      (ifW false (Q (.ret oddT) (l28t x o d)) (Q .next (l28t x o d)))
      (fun c => ifW c (Q (.ret oddT) (l28t x o d)) (Q .next (l28t x o d)))) (fun c => ifW c (Q (.ret oddT) (l28t x o d)) (Q .next (l28t x o d)))) (fun c => ifW c (Q (.ret oddT) (l28t x o d)) (Q .next (l28t x o d)))) (fun c => ifW c (Q (.ret oddT) (l28t x o d)) (Q .next (l28t x o d)))) (fun c => ifW c (Q (.ret oddT) (l28t x o d)) (Q .next (l28t x o d)))) := by kernel_rfl
theorem w28_3 (x : Nine) (o d : List Int) (Q : Fl → Loc → Prop) (X : XE) : wpB S28 ((b28.drop 3).take 1) (l28t x o d) Q X = (-(big : Int) ≤ 9 ∧ 9 ≤ (big : Int) ∧ ForK S28 (forTg (stAt 28 3)) bb28 ((rangeL 0 9 1).map Tr.int) (l28t x o d) (fun fl ρ => match fl with
    | .next => Q .next ρ
    | fl => Q fl ρ)) := by kernel_rfl
theorem w28t (x : Nine) (o d : List Int) (k : Int) (N : Loc → Prop) (R : Tr → Loc → Prop) (M : PySem.Str → Tr → Loc → Prop) : TB S28 (forTg (stAt 28 3)) bb28 (l28k x o d k) N R M =
  itT x.list k fun t => cmpW .Lt t (.int 0) fun c => orW c (itT x.list k fun t => itT tops k fun u => cmpW .GtE t u fun c => orW c (ifW false (R noFitT (l28k x o d k)) (N (l28t x o d))) (fun c => ifW c (R noFitT (l28k x o d k)) (N (l28t x o d)))) (fun c => ifW c (R noFitT (l28k x o d k)) (N (l28t x o d))) := by kernel_rfl
theorem w28_4 (x : Nine) (o d : List Int) (Q : Fl → Loc → Prop) (X : XE) : wpB S28 ((b28.drop 4).take 1) (l28t x o d) Q X = ((o.map Tr.int).length ≤ big ∧ (o.map Tr.int).length ≤ big ∧ 0 < (4 : Int) ∧ (d.map Tr.int).length ≤ big ∧ Q .next (l28e x o d (20 + ((o.map Tr.int).length : Int) + -((o.map Tr.int).length : Int) % 4 + ((d.map Tr.int).length : Int)))) := by kernel_rfl
theorem w28_5 (x : Nine) (o d : List Int) (t : Int) (Q : Fl → Loc → Prop) (X : XE) : wpB S28 (b28.drop 5) (l28e x o d t) Q X = ∃ o', o.map Tr.int = o'.map Tr.int ∧ oct o' ∧ o'.length ≤ 44 ∧ (0 ≤ t ∧ t < 65536) ∧ x.fits ∧ Operator.Add = Operator.Add ∧ ((x.headL (pad o') t).map Tr.int).length + (d.map Tr.int).length ≤ big ∧
  byW ((x.headL (pad o') t).map Tr.int ++ d.map Tr.int) fun ns => Q (.ret (.tup [.str "", .bytes ns])) (l28e x o d t) := by kernel_rfl
theorem Nine.headL_len (x : Nine) (o : List Int) (t : Int) : (x.headL o t).length = 20 + o.length := by unfold Nine.headL Mine.headL; rw [be_len]
theorem Nine.headL_oct (x : Nine) (o : List Int) (t : Int) : oct (x.headL o t) := by unfold Nine.headL Mine.headL; exact be_oct _ _
theorem range_get {n i : Nat} {x : Tr} (hx : ((rangeL 0 (n : Int) 1).map Tr.int)[i]? = some x) : i < n ∧ x = .int (i : Int) := by
  rw [range_one (Int.natCast_nonneg _), Int.toNat_natCast, List.getElem?_map, List.getElem?_map] at hx
  obtain ⟨j, hj, rfl⟩ := Option.map_eq_some_iff.mp hx
  obtain ⟨k, hk, rfl⟩ := Option.map_eq_some_iff.mp hj
  obtain ⟨a, b⟩ := List.getElem?_eq_some_iff.mp hk
  rw [List.getElem_range] at b
  subst b
  exact ⟨by simpa using a, rfl⟩
theorem range_len (n : Nat) : ((rangeL 0 (n : Int) 1).map Tr.int).length = n := by
  rw [range_one (Int.natCast_nonneg _), Int.toNat_natCast, List.length_map, List.length_map, List.length_range]
theorem fits_of {x : Nine} (h : ∀ j < 9, 0 ≤ dig x.list j ∧ dig x.list j < dig tops j) : x.fits :=
  ⟨h 0 (by decide), h 1 (by decide), h 2 (by decide), h 3 (by decide), h 4 (by decide), h 5 (by decide), h 6 (by decide), h 7 (by decide), h 8 (by decide)⟩
theorem of_fits {x : Nine} (h : x.fits) : ∀ j < 9, 0 ≤ dig x.list j ∧ dig x.list j < dig tops j := fun j hj => by
  obtain ⟨h0, h1, h2, h3, h4, h5, h6, h7, h8⟩ := h
  match j, hj with
  | 0, _ => exact h0
  | 1, _ => exact h1
  | 2, _ => exact h2
  | 3, _ => exact h3
  | 4, _ => exact h4
  | 5, _ => exact h5
  | 6, _ => exact h6
  | 7, _ => exact h7
  | 8, _ => exact h8
include B in
theorem c_dueW : Contract prg w (g0 w.params) h₀ 3 (.ref 224) sDueW :=
  mkC (n := 2) (ex := exN) (l := [("_law_head", .fn sHead2)]) (i := 28) (cd := 223) (name := "_law_due_written") (names := ["fields", "options", "data"]) (pym := .str "law_pf0339_01" 418) B (by kernel_rfl) (by kernel_rfl) (fun vs h => by
    obtain ⟨a, b, c, rfl⟩ := len3 h
    kernel_rfl) (by kernel_rfl) exN_ok (.fn (by kernel_rfl) (by decide) (c_hd B) .nil) fun ts Q X h => by
    replace h := nineLL_of h
    obtain ⟨x, xs, r, rfl, h⟩ := h
    replace h := oneL_of h
    obtain ⟨ys, rfl, h⟩ := h
    · obtain ⟨o, k, rfl, rfl, ho, hk, hol, hkl, hq⟩ := h
      have hm : (o.map Tr.int).length = o.length := List.length_map _
      have hmk : (k.map Tr.int).length = k.length := List.length_map _
      refine ⟨rfl, ?_⟩
      refine (show wpB S28 (b28.drop 0) (l28 x o k) _ _ from cut1 0 (use (w28_0 x o k _ _) ⟨by decide, by decide +kernel, by decide, by decide +kernel, ?_⟩))
      unfold wantT at hq
      refine cut1 1 (use (w28_1 x o k _ _) ⟨by first | exact le_big (by assumption) | (rw [big_eq]; lia), ifW_of (fun e => ?_) fun e => ?_⟩)
      · rw [if_pos (by have := of_decide_eq_true e; lia)] at hq
        exact hq
      have h40 : ¬ 40 < o.length := by have := of_decide_eq_false e; lia
      rw [if_neg h40] at hq
      have odd_ : x.odd → Q oddT := fun q => by rw [if_pos q] at hq; exact hq
      refine cut1 2 (use (w28_2 x o k _ _) ⟨by decide, by decide +kernel, _, rfl, or_cut (fun e => odd_ (.inl (of_decide_eq_true e))) fun e1 => ⟨by decide, by decide +kernel, _, rfl, or_cut (fun e => odd_ (.inr (.inl (of_decide_eq_true e)))) fun e2 => ⟨by decide, by decide +kernel, _, rfl, by decide, or_cut (fun e => odd_ (.inr (.inr (.inl (bne_iff_ne.mp e))))) fun e3 =>
        ⟨by decide, by decide +kernel, _, rfl, or_cut (fun e => odd_ (.inr (.inr (.inr (.inl (of_decide_eq_true e)))))) fun e4 => ⟨by decide, by decide +kernel, _, rfl, or_last (fun e => odd_ (.inr (.inr (.inr (.inr (of_decide_eq_true e)))))) fun e5 => ?_⟩⟩⟩⟩⟩)
      have hodd : ¬ x.odd := by
        rintro (q | q | q | q | q)
        · exact of_decide_eq_false e1 q
        · exact of_decide_eq_false e2 q
        · exact q (by simpa using e3)
        · exact of_decide_eq_false e4 q
        · exact of_decide_eq_false e5 q
      rw [if_neg hodd] at hq
      clear odd_
      refine cut1 3 (use (w28_3 x o k _ _) ⟨by decide +kernel, by decide +kernel, forK_of (σ := Nat) (fun i _ => ∀ j < i, 0 ≤ dig x.list j ∧ dig x.list j < dig tops j) (fun _ => l28t x o k) 0 rfl (fun j hj => absurd hj (Nat.not_lt_zero _)) (fun i t s ht hs => ?_) fun s hs => ?_⟩)
      · obtain ⟨hi, rfl⟩ := range_get (n := 9) ht
        have bad : ¬ x.fits → Q noFitT := fun q => by rw [if_pos q] at hq; exact hq
        refine turn_of (l28k x o k i) (by kernel_rfl) (w28t x o k i _ _ _) (itT_of i (show 9 ≤ 1000 by decide) hi (or_cut (fun e => bad fun q => ?_) fun e => itT_of i (show 9 ≤ 1000 by decide) hi (itT_of i (by decide) hi (or_last (fun e' => bad fun q => ?_) fun e' => ⟨0, rfl, fun j hj => ?_⟩))))
        · have := (of_fits q i hi).1; have := of_decide_eq_true e; lia
        · have := (of_fits q i hi).2; have := of_decide_eq_true e'; lia
        · rcases Nat.lt_succ_iff_lt_or_eq.mp hj with hj | rfl
          · exact hs j hj
          · have := of_decide_eq_false e; have := of_decide_eq_false e'; lia
      · have hfit : x.fits := fits_of fun j hj => hs j (by have := range_len 9; exact this.symm ▸ hj)
        rw [if_neg (fun q => q hfit)] at hq
        refine cut1 4 (use (w28_4 x o k _ _) ⟨by first | exact le_big (by assumption) | (rw [big_eq]; lia), by first | exact le_big (by assumption) | (rw [big_eq]; lia), by decide, by first | exact le_big (by assumption) | (rw [big_eq]; lia), ?_⟩)
        have hpl := pad_len o
        have et : 20 + ((o.map Tr.int).length : Int) + -((o.map Tr.int).length : Int) % 4 + ((k.map Tr.int).length : Int) = 20 + ((pad o).length : Int) + (k.length : Int) := by rw [hm, hmk]; lia
        rw [et]
        refine use (w28_5 x o k _ _ _) ⟨o, rfl, ho, by lia, by lia, hfit, rfl, ?_, ?_⟩
        · rw [List.length_map, hmk]
          have := x.headL_len (pad o) (20 + ((pad o).length : Int) + (k.length : Int))
          show (x.headL _ _).length + _ ≤ _
          rw [this, big_eq]; lia
        · rw [← List.map_append]
          refine byW_of (oct_append.mpr ⟨x.headL_oct _ _, hk⟩) ?_ hq
          rw [List.length_append]
          have := x.headL_len (pad o) (20 + ((pad o).length : Int) + (k.length : Int))
          show (x.headL _ _).length + _ ≤ _
          rw [this]; lia
end
end Mine
end
section
open PySem PySem.W PySem.Spec PySem.Calls PyProof.Rows
set_option Elab.async false
namespace Mine
set_option tactic.hygienic false
set_option maxRecDepth 100000
/-- xs[k] = v -/
noncomputable def setI (ks : List Int) (k : Int) (v : Tr) (K : List Tr → Prop) : Prop := some (Slot.mu (iL ks)) = some (Slot.mu (iL ks)) ∧ 0 ≤ k ∧ k < ((ks.map Tr.int).length : Int) ∧ k < big ∧ K ((ks.map Tr.int).set k.toNat v)
theorem setI_of {ks : List Int} {k v : Int} {K : List Tr → Prop} (hl : ks.length ≤ 1000) (h0 : 0 ≤ k) (h1 : k < ks.length) (h : K ((ks.set k.toNat v).map Tr.int)) : setI ks k (.int v) K :=
  ⟨rfl, h0, by rw [List.length_map]; exact h1, by first | exact le_big (by assumption) | (rw [big_eq]; lia), by rw [List.map_set] at h; exact h⟩
theorem oct_set {ks : List Int} (ho : oct ks) {k : Nat} {v : Int} (hv : 0 ≤ v ∧ v < 256) : oct (ks.set k v) := fun x hx => by
  rcases List.mem_or_eq_of_mem_set hx with h | rfl
  · exact ho x h
  · exact hv
noncomputable def sHurt : MSpec := fun t ts Q => match t with
  | .list xs => oneI ts fun _ => ∃ ks : List Int, xs = ks.map Tr.int ∧ oct ks ∧ 20 ≤ ks.length ∧ ks.length ≤ 1000 ∧ ∀ ks', oct ks' → ks'.length = ks.length → Q (.list (ks'.map Tr.int))
  | _ => False
section
variable {w : World} {h₀ : Heap} (B : Base prg w (kf w.params) h₀)
noncomputable abbrev b33 : List Stmt := (fnAt 33).2.1
noncomputable abbrev l33 (xs : List Tr) (g wy r : Int) : Loc := [("octets", .mu (.list xs)), ("digit", .val (.int g)), ("way", .val (.int wy)), ("rest", .val (.int r))]
theorem w33_0 (xs : List Tr) (g : Int) (Q : Fl → Loc → Prop) (X : XE) : wpB S0 ((b33.drop 0).take 2) [("octets", .mu (.list xs)), ("digit", .val (.int g))] Q X = (0 < (6 : Int) ∧ 0 < (6 : Int) ∧ (6 : Int).natAbs.log2 < 9000 ∧ Q .next (l33 xs g (g % 6) (g / 6))) := by kernel_rfl
theorem w33_2 (ks : List Int) (g wy r : Int) (Q : Fl → Loc → Prop) (X : XE) : wpB S0 ((b33.drop 2).take 1) (l33 (ks.map Tr.int) g wy r) Q X = ifW (wy == 0) (0 < (16 : Int) ∧ setI ks 0 (.int (64 + r % 16)) fun ys => Q .next (l33 ys g wy r)) (Q .next (l33 (ks.map Tr.int) g wy r)) := by kernel_rfl
theorem w33_3 (ks : List Int) (g wy r : Int) (Q : Fl → Loc → Prop) (X : XE) : wpB S0 ((b33.drop 3).take 1) (l33 (ks.map Tr.int) g wy r) Q X = ifW (wy == 1) (0 < (16 : Int) ∧ IntMulOk (r % 16) 16 ∧ setI ks 0 (.int (r % 16 * 16 + 5)) fun ys => Q .next (l33 ys g wy r)) (Q .next (l33 (ks.map Tr.int) g wy r)) := by kernel_rfl
noncomputable abbrev i33 (j : Nat) : List Stmt := forBody (b33.getD j (.Pass ⟨0, 0, 0, 0⟩))
noncomputable def idQ (Q : Fl → Loc → Prop) : Fl → Loc → Prop := fun fl ρ => match fl with
  | .next => Q .next ρ
  | fl => Q fl ρ
theorem w33_4 (ks : List Int) (g wy r : Int) (Q : Fl → Loc → Prop) (X : XE) : wpB S0 ((b33.drop 4).take 1) (l33 (ks.map Tr.int) g wy r) Q X = ifW (wy == 2) (wpB S0 (i33 4) (l33 (ks.map Tr.int) g wy r) (idQ Q) X) (Q .next (l33 (ks.map Tr.int) g wy r)) := by kernel_rfl
theorem w33_40 (ks : List Int) (g wy r : Int) (Q : Fl → Loc → Prop) (X : XE) : wpB S0 (((i33 4).drop 0).take 1) (l33 (ks.map Tr.int) g wy r) Q X = (0 < (64 : Int) ∧ (64 : Int).natAbs.log2 < 9000 ∧ 0 < (2 : Int) ∧ setI ks 2 (.int (r / 64 % 2)) fun ys => Q .next (l33 ys g wy r)) := by kernel_rfl
theorem w33_41 (ks : List Int) (g wy r : Int) (Q : Fl → Loc → Prop) (X : XE) : wpB S0 ((i33 4).drop 1) (l33 (ks.map Tr.int) g wy r) (idQ Q) X = (0 < (64 : Int) ∧ setI ks 3 (.int (r % 64)) fun ys => Q .next (l33 ys g wy r)) := by kernel_rfl
theorem w33_5 (ks : List Int) (g wy r : Int) (Q : Fl → Loc → Prop) (X : XE) : wpB S0 ((b33.drop 5).take 1) (l33 (ks.map Tr.int) g wy r) Q X = ifW (wy == 3) (wpB S0 (i33 5) (l33 (ks.map Tr.int) g wy r) (idQ Q) X) (Q .next (l33 (ks.map Tr.int) g wy r)) := by kernel_rfl
theorem w33_50 (ks : List Int) (g wy r : Int) (Q : Fl → Loc → Prop) (X : XE) : wpB S0 (((i33 5).drop 0).take 1) (l33 (ks.map Tr.int) g wy r) Q X = (0 < (256 : Int) ∧ setI ks 6 (.int (r % 256)) fun ys => Q .next (l33 ys g wy r)) := by kernel_rfl
theorem w33_51 (ks : List Int) (g wy r : Int) (Q : Fl → Loc → Prop) (X : XE) : wpB S0 ((i33 5).drop 1) (l33 (ks.map Tr.int) g wy r) (idQ Q) X = (0 < (256 : Int) ∧ (256 : Int).natAbs.log2 < 9000 ∧ 0 < (256 : Int) ∧ setI ks 7 (.int (r / 256 % 256)) fun ys => Q .next (l33 ys g wy r)) := by kernel_rfl
theorem w33_6 (ks : List Int) (g wy r : Int) (Q : Fl → Loc → Prop) (X : XE) : wpB S0 ((b33.drop 6).take 1) (l33 (ks.map Tr.int) g wy r) Q X = ifW (wy == 4) (itT ks 10 fun t => binW .Add t (.int r) fun t => binW .Mod t (.int 256) fun t => setI ks 10 t fun ys => Q .next (l33 ys g wy r)) (Q .next (l33 (ks.map Tr.int) g wy r)) := by kernel_rfl
theorem w33_7 (ks : List Int) (g wy r : Int) (Q : Fl → Loc → Prop) (X : XE) : wpB S0 (b33.drop 7) (l33 (ks.map Tr.int) g wy r) Q X = ifW (wy == 5) ((ks.map Tr.int).length ≤ big ∧ 0 < ((ks.map Tr.int).length : Int) ∧ ((ks.map Tr.int).length : Int).natAbs.log2 < 9000 ∧ 0 < (256 : Int) ∧ (ks.map Tr.int).length ≤ big ∧ 0 < ((ks.map Tr.int).length : Int) ∧ setI ks (r % ((ks.map Tr.int).length : Int)) (.int (r / ((ks.map Tr.int).length : Int) % 256)) fun ys => Q .next (l33 ys g wy r)) (Q .next (l33 (ks.map Tr.int) g wy r)) := by kernel_rfl
include B in
theorem c_hurt : ContractM prg w (g0 w.params) h₀ 1 (.ref 259) sHurt :=
  mkM (n := 0) (ex := exN) (l := []) (i := 33) (cd := 258) (name := "_law_hurt") (p0 := "octets") (names := ["digit"]) (pym := .str "law_pf0339_01" 418) B (by kernel_rfl) (by kernel_rfl) (fun vs h => by
    obtain ⟨a, b, rfl⟩ := len2 h
    kernel_rfl) (by kernel_rfl) exN_ok .nil fun t ts Q h => by
    cases t <;> first | exact h.elim | skip
    rename_i xs
    replace h := oneI_of h
    obtain ⟨g, rfl, h⟩ := h
    · obtain ⟨ks, rfl, ho, h20, hl, hq⟩ := h
      refine ⟨rfl, show wpB S0 b33 _ _ _ from wpB_split 2 (use (w33_0 _ g _ _) ⟨by decide, by decide, by decide +kernel, ?_⟩)⟩
      generalize g % 6 = wy
      generalize g / 6 = r
      generalize hn : ks.length = n at *
      have s8 : ∀ ks' : List Int, oct ks' → ks'.length = n → endM "octets" Q .next (l33 (ks'.map Tr.int) g wy r) := fun ks' a b => ⟨_, rfl, hq ks' a b⟩
      have s7 : ∀ ks' : List Int, oct ks' → ks'.length = n → wpB S0 (b33.drop 7) (l33 (ks'.map Tr.int) g wy r) (endM "octets" Q) (fun _ _ _ => False) := fun ks' a b => use (w33_7 ks' g wy r _ _) (ifW_of (fun _ => by
        rw [List.length_map, b]
        have hp : (0 : Int) < n := by lia
        have q1 := Int.emod_nonneg r (Int.ne_of_gt hp)
        have q2 := Int.emod_lt_of_pos r hp
        refine ⟨by first | exact le_big (by assumption) | (rw [big_eq]; lia), hp, ?_, by decide, by first | exact le_big (by assumption) | (rw [big_eq]; lia), hp, setI_of (by lia) q1 (by lia) (s8 _ (oct_set a ⟨by lia, by lia⟩) (by rw [List.length_set]; exact b))⟩
        rw [Int.natAbs_natCast]
        exact Nat.lt_of_le_of_lt (Nat.log2_le_self _) (by lia)) fun _ => s8 _ a b)
      have s6 : ∀ ks' : List Int, oct ks' → ks'.length = n → wpB S0 (b33.drop 6) (l33 (ks'.map Tr.int) g wy r) (endM "octets" Q) (fun _ _ _ => False) := fun ks' a b => cut1 6 (use (w33_6 ks' g wy r _ _) (ifW_of (fun _ => itT_of 10 (by lia) (by lia) ⟨by decide, setI_of (by lia) (by decide) (by lia) (s7 _ (oct_set a ⟨by lia, by lia⟩) (by rw [List.length_set]; exact b))⟩) fun _ => s7 _ a b))
      have s5 : ∀ ks' : List Int, oct ks' → ks'.length = n → wpB S0 (b33.drop 5) (l33 (ks'.map Tr.int) g wy r) (endM "octets" Q) (fun _ _ _ => False) := fun ks' a b => cut1 5 (use (w33_5 ks' g wy r _ _) (ifW_of (fun _ => show wpB S0 ((i33 5).drop 0) _ _ _ from cut1 0 (use (w33_50 ks' g wy r _ _) ⟨by decide, setI_of (by lia) (by decide) (by lia) (use (w33_51 _ g wy r _ _) ⟨by decide, by decide +kernel, by decide, setI_of (by rw [List.length_set]; lia) (by decide) (by rw [List.length_set]; lia) (s6 _ (oct_set (oct_set a ⟨by lia, by lia⟩) ⟨by lia, by lia⟩) (by rw [List.length_set, List.length_set]; exact b))⟩)⟩)) fun _ => s6 _ a b))
      have s4 : ∀ ks' : List Int, oct ks' → ks'.length = n → wpB S0 (b33.drop 4) (l33 (ks'.map Tr.int) g wy r) (endM "octets" Q) (fun _ _ _ => False) := fun ks' a b => cut1 4 (use (w33_4 ks' g wy r _ _) (ifW_of (fun _ => show wpB S0 ((i33 4).drop 0) _ _ _ from cut1 0 (use (w33_40 ks' g wy r _ _) ⟨by decide, by decide +kernel, by decide, setI_of (by lia) (by decide) (by lia) (use (w33_41 _ g wy r _ _) ⟨by decide, setI_of (by rw [List.length_set]; lia) (by decide) (by rw [List.length_set]; lia) (s5 _ (oct_set (oct_set a ⟨by lia, by lia⟩) ⟨by lia, by lia⟩) (by rw [List.length_set, List.length_set]; exact b))⟩)⟩)) fun _ => s5 _ a b))
      have s3 : ∀ ks' : List Int, oct ks' → ks'.length = n → wpB S0 (b33.drop 3) (l33 (ks'.map Tr.int) g wy r) (endM "octets" Q) (fun _ _ _ => False) := fun ks' a b => cut1 3 (use (w33_3 ks' g wy r _ _) (ifW_of (fun _ => ⟨by decide, IntMulOk.of_right (by decide +kernel), setI_of (by lia) (by decide) (by lia) (s4 _ (oct_set a ⟨by lia, by lia⟩) (by rw [List.length_set]; exact b))⟩) fun _ => s4 _ a b))
      exact cut1 2 (use (w33_2 ks g wy r _ _) (ifW_of (fun _ => ⟨by decide, setI_of (by lia) (by decide) (by lia) (s3 _ (oct_set ho ⟨by lia, by lia⟩) (by rw [List.length_set]; exact hn))⟩) fun _ => s3 _ ho hn))
end
end Mine
end
section
open PySem PySem.W PySem.Spec PySem.Calls PyProof.Rows
set_option Elab.async false
namespace Mine
set_option tactic.hygienic false
set_option maxRecDepth 100000
/-- _law_digit(script, p) -/
noncomputable def digW (ns : List Int) (p : Int) (K : Int → Prop) : Prop := ∃ ns1 : List Int, ns.map Tr.int = ns1.map Tr.int ∧ ns1.length ≤ 1000 ∧ 0 ≤ p ∧ K (dig ns1 p.toNat)
theorem digW_of {ns : List Int} {p : Int} {K : Int → Prop} (hl : ns.length ≤ 1000) (hp : 0 ≤ p) (h : K (dig ns p.toNat)) : digW ns p K := ⟨ns, rfl, hl, hp, h⟩
/-- _law_some(d, m, s) -/
noncomputable def someW (d m s : Int) (K : List Int → Prop) : Prop := 0 ≤ m ∧ m ≤ 1000 ∧ K (someL d m.toNat s)
theorem someW_of {d m s : Int} {K : List Int → Prop} (h0 : 0 ≤ m) (h1 : m ≤ 1000) (h : ∀ o, oct o → o.length = m.toNat → K o) : someW d m s K := ⟨h0, h1, h _ (someL_oct _ _ _) (someL_len _ _ _)⟩
/-- _law_whole(xs[:h]) -/
noncomputable def whW (ks : List Int) (h : Int) (K : Int → Prop) : Prop := True ∧ 0 ≤ h ∧ (ks.map Tr.int).length ≤ big ∧ ∃ ns : List Int, (ks.map Tr.int).take h.toNat = ns.map Tr.int ∧ oct ns ∧ ns.length ≤ 1000 ∧ K (num ns)
theorem whW_of {ks : List Int} {h : Int} {K : Int → Prop} (ho : oct ks) (hl : ks.length ≤ 1000) (h0 : 0 ≤ h) (hK : ∀ n, K n) : whW ks h K :=
  ⟨trivial, h0, by first | exact le_bigm (by assumption) | (rw [List.length_map, big_eq]; lia), ks.take h.toNat, (List.map_take).symm, oct_take ho _, by rw [List.length_take]; lia, hK _⟩
noncomputable def sAny : Spec := fun ts Q _ => oneL ts fun xs => ∃ ns : List Int, xs = ns.map Tr.int ∧ ns.length ≤ 1000 ∧ ∀ ks, oct ks → ks.length ≤ 100 → Q (.list (ks.map Tr.int))
section
variable {w : World} {h₀ : Heap} (B : Base prg w (kf w.params) h₀)
noncomputable abbrev S34 : Sig := sigOf exN [("_law_digit", .fn sDigit), ("_law_some", .new sSome), ("_law_head", .fn sHead2), ("_law_hurt", .mu sHurt), ("_law_whole", .fn sWhole)]
noncomputable abbrev b34 : List Stmt := (fnAt 34).2.1
noncomputable abbrev bb34 : List Stmt := forBody (stAt 34 8)
noncomputable abbrev bc34 : List Stmt := forBody (bb34.getD 3 (.Pass ⟨0, 0, 0, 0⟩))
noncomputable abbrev l34 (ns : List Int) (A C D : Tr) (xs : List Tr) (z : Loc) : Loc := ("script", .val (iL ns)) :: ("options", .val A) :: ("data", .val C) :: ("fields", .val D) :: ("octets", .mu (.list xs)) :: z
noncomputable abbrev x34 (e : Int) : Nine := ⟨167772161, 3232235777, 6, 63, e, 1, 24, 46, 2⟩
theorem x34_fits {e : Int} (he : 0 ≤ e ∧ e < 65536) : (x34 e).fits :=
  ⟨show (0 : Int) ≤ 167772161 ∧ (167772161 : Int) < 2 ^ 32 by decide, show (0 : Int) ≤ 3232235777 ∧ (3232235777 : Int) < 2 ^ 32 by decide, show (0 : Int) ≤ 6 ∧ (6 : Int) < 256 by decide, show (0 : Int) ≤ 63 ∧ (63 : Int) < 256 by decide, he, show (0 : Int) ≤ 1 ∧ (1 : Int) < 8 by decide, show (0 : Int) ≤ 24 ∧ (24 : Int) < 65529 by decide, show (0 : Int) ≤ 46 ∧ (46 : Int) < 64 by decide, show (0 : Int) ≤ 2 ∧ (2 : Int) < 4 by decide⟩
theorem w34_0 (ns : List Int) (Q : Fl → Loc → Prop) (X : XE) : wpB S34 ((b34.drop 0).take 1) [("script", .val (iL ns))] Q X = digW ns 14 fun a => digW ns 15 fun b => 0 < (3 : Int) ∧ IntMulOk (b % 3) 4 ∧ someW a (b % 3 * 4) 130 fun o => Q .next [("script", .val (iL ns)), ("options", .mu (iL o))] := by kernel_rfl
theorem w34_1 (ns o : List Int) (Q : Fl → Loc → Prop) (X : XE) : wpB S34 ((b34.drop 1).take 1) [("script", .val (iL ns)), ("options", .mu (iL o))] Q X = digW ns 16 fun a => digW ns 17 fun b => 0 < (6 : Int) ∧ someW a ((b + 3) % 6) 9 fun d => Q .next [("script", .val (iL ns)), ("options", .mu (iL o)), ("data", .mu (iL d))] := by kernel_rfl
theorem w34_2 (ns o d : List Int) (Q : Fl → Loc → Prop) (X : XE) : wpB S34 ((b34.drop 2).take 1) [("script", .val (iL ns)), ("options", .mu (iL o)), ("data", .mu (iL d))] Q X = digW ns 13 fun a => 0 < (65536 : Int) ∧ Q .next [("script", .val (iL ns)), ("options", .mu (iL o)), ("data", .mu (iL d)), ("fields", .mu (x34 (a % 65536)).tr)] := by kernel_rfl
theorem w34_3 (ns o d : List Int) (e : Int) (Q : Fl → Loc → Prop) (X : XE) : wpB S34 ((b34.drop 3).take 1) [("script", .val (iL ns)), ("options", .mu (iL o)), ("data", .mu (iL d)), ("fields", .mu (x34 e).tr)] Q X = ((o.map Tr.int).length ≤ big ∧ (d.map Tr.int).length ≤ big ∧ ∃ o', o.map Tr.int = o'.map Tr.int ∧ oct o' ∧ o'.length ≤ 44 ∧ (0 ≤ 20 + ((o.map Tr.int).length : Int) + ((d.map Tr.int).length : Int) ∧ 20 + ((o.map Tr.int).length : Int) + ((d.map Tr.int).length : Int) < 65536) ∧ (x34 e).fits ∧
  (((x34 e).headL (pad o') (20 + ((o.map Tr.int).length : Int) + ((d.map Tr.int).length : Int))).map Tr.int).length + (d.map Tr.int).length ≤ big ∧ Q .next (l34 ns (iL o) (iL d) (x34 e).tr (((x34 e).headL (pad o') (20 + ((o.map Tr.int).length : Int) + ((d.map Tr.int).length : Int))).map Tr.int ++ d.map Tr.int) [])) := by kernel_rfl
section
variable (ns : List Int) (A C D : Tr)
theorem w34_4 (xs : List Tr) (Q : Fl → Loc → Prop) (X : XE) : wpB S34 ((b34.drop 4).take 1) (l34 ns A C D xs []) Q X = digW ns 18 fun a => digW ns 19 fun b => 0 < (4 : Int) ∧ someW a ((b + 2) % 4) 77 fun o => xs.length + (o.map Tr.int).length ≤ big ∧ Q .next (l34 ns A C D (xs ++ o.map Tr.int) []) := by kernel_rfl
theorem w34_5 (xs : List Tr) (Q : Fl → Loc → Prop) (X : XE) : wpB S34 ((b34.drop 5).take 1) (l34 ns A C D xs []) Q X = digW ns 20 fun a => 0 < (4 : Int) ∧ -(big : Int) ≤ a % 4 ∧ a % 4 ≤ big ∧ ForK S34 (forTg (stAt 34 5)) (forBody (stAt 34 5)) ((rangeL 0 (a % 4) 1).map Tr.int) (l34 ns A C D xs []) (idQ Q) := by kernel_rfl
theorem w34t (xs : List Tr) (k : Int) (N : Loc → Prop) (R : Tr → Loc → Prop) (M : PySem.Str → Tr → Loc → Prop) : TB S34 (forTg (stAt 34 5)) (forBody (stAt 34 5)) (l34 ns A C D xs [("k", .val (.int k))]) N R M =
  digW ns (21 + k) fun a => some (Slot.mu (Tr.list xs)) = some (Slot.mu (Tr.list xs)) ∧ sHurt (.list xs) [.int a] fun t' => N [("script", .val (iL ns)), ("options", .val A), ("data", .val C), ("fields", .val D), ("octets", .mu t')] := by kernel_rfl
theorem w34_6 (xs : List Tr) (Q : Fl → Loc → Prop) (X : XE) : wpB S34 ((b34.drop 6).take 1) (l34 ns A C D xs []) Q X = digW ns 24 fun a => 0 < (3 : Int) ∧ Q .next (l34 ns A C D xs [("again", .val (.int (a % 3)))]) := by kernel_rfl
variable (ks : List Int)
theorem w34_7 (ag : Int) (Q : Fl → Loc → Prop) (X : XE) : wpB S34 ((b34.drop 7).take 1) (l34 ns A C D (ks.map Tr.int) [("again", .val (.int ag))]) Q X = itT ks 0 fun t => binW .Mod t (.int 16) fun t => binW .Mult (.int 4) t fun t => Q .next (l34 ns A C D (ks.map Tr.int) [("again", .val (.int ag)), ("head", .val t)]) := by kernel_rfl
variable (ag h : Int)
theorem w34_8 (Q : Fl → Loc → Prop) (X : XE) : wpB S34 ((b34.drop 8).take 1) (l34 ns A C D (ks.map Tr.int) [("again", .val (.int ag)), ("head", .val (.int h))]) Q X = andW (decide (0 < ag)) (chW (decide (20 ≤ h)) ((ks.map Tr.int).length ≤ big ∧ andW (decide (h ≤ ((ks.map Tr.int).length : Int))) (ifW true (wpB S34 bb34 (l34 ns A C D (ks.map Tr.int) [("again", .val (.int ag)), ("head", .val (.int h))]) (idQ Q) X) (Q .next (l34 ns A C D (ks.map Tr.int) [("again", .val (.int ag)), ("head", .val (.int h))]))) (fun c => ifW c (wpB S34 bb34 (l34 ns A C D (ks.map Tr.int) [("again", .val (.int ag)), ("head", .val (.int h))]) (idQ Q) X) (Q .next (l34 ns A C D (ks.map Tr.int) [("again", .val (.int ag)), ("head", .val (.int h))])))) (andW false (ifW true (wpB S34 bb34 (l34 ns A C D (ks.map Tr.int) [("again", .val (.int ag)), ("head", .val (.int h))]) (idQ Q) X) (Q .next (l34 ns A C D (ks.map Tr.int) [("again", .val (.int ag)), ("head", .val (.int h))]))) (fun c => ifW c (wpB S34 bb34 (l34 ns A C D (ks.map Tr.int) [("again", .val (.int ag)), ("head", .val (.int h))]) (idQ Q) X) (Q .next (l34 ns A C D (ks.map Tr.int) [("again", .val (.int ag)), ("head", .val (.int h))]))))) (fun c => ifW c (wpB S34 bb34 (l34 ns A C D (ks.map Tr.int) [("again", .val (.int ag)), ("head", .val (.int h))]) (idQ Q) X) (Q .next (l34 ns A C D (ks.map Tr.int) [("again", .val (.int ag)), ("head", .val (.int h))]))) := by kernel_rfl
theorem w34_80 (Q : Fl → Loc → Prop) (X : XE) : wpB S34 ((bb34.drop 0).take 1) (l34 ns A C D (ks.map Tr.int) [("again", .val (.int ag)), ("head", .val (.int h))]) Q X = setI ks 10 (.int 0) fun ys => Q .next (l34 ns A C D ys [("again", .val (.int ag)), ("head", .val (.int h))]) := by kernel_rfl
theorem w34_81 (Q : Fl → Loc → Prop) (X : XE) : wpB S34 ((bb34.drop 1).take 1) (l34 ns A C D (ks.map Tr.int) [("again", .val (.int ag)), ("head", .val (.int h))]) Q X = setI ks 11 (.int 0) fun ys => Q .next (l34 ns A C D ys [("again", .val (.int ag)), ("head", .val (.int h))]) := by kernel_rfl
theorem w34_82 (Q : Fl → Loc → Prop) (X : XE) : wpB S34 ((bb34.drop 2).take 1) (l34 ns A C D (ks.map Tr.int) [("again", .val (.int ag)), ("head", .val (.int h))]) Q X = whW ks h fun n => 0 < (65535 : Int) ∧ Q .next (l34 ns A C D (ks.map Tr.int) [("again", .val (.int ag)), ("head", .val (.int h)), ("check", .val (.int (65534 - (n - 1) % 65535)))]) := by kernel_rfl
theorem w34_83 (c : Int) (Q : Fl → Loc → Prop) (X : XE) : wpB S34 ((bb34.drop 3).take 1) (l34 ns A C D (ks.map Tr.int) [("again", .val (.int ag)), ("head", .val (.int h)), ("check", .val (.int c))]) Q X = ifW (ag == 2) (wpB S34 bc34 (l34 ns A C D (ks.map Tr.int) [("again", .val (.int ag)), ("head", .val (.int h)), ("check", .val (.int c))]) (idQ Q) X) (Q .next (l34 ns A C D (ks.map Tr.int) [("again", .val (.int ag)), ("head", .val (.int h)), ("check", .val (.int c))])) := by kernel_rfl
theorem w34_830 (c : Int) (Q : Fl → Loc → Prop) (X : XE) : wpB S34 ((bc34.drop 0).take 1) (l34 ns A C D (ks.map Tr.int) [("again", .val (.int ag)), ("head", .val (.int h)), ("check", .val (.int c))]) Q X = setI ks 4 (.int 0) fun ys => Q .next (l34 ns A C D ys [("again", .val (.int ag)), ("head", .val (.int h)), ("check", .val (.int c))]) := by kernel_rfl
theorem w34_831 (c : Int) (Q : Fl → Loc → Prop) (X : XE) : wpB S34 ((bc34.drop 1).take 1) (l34 ns A C D (ks.map Tr.int) [("again", .val (.int ag)), ("head", .val (.int h)), ("check", .val (.int c))]) Q X = setI ks 5 (.int 0) fun ys => Q .next (l34 ns A C D ys [("again", .val (.int ag)), ("head", .val (.int h)), ("check", .val (.int c))]) := by kernel_rfl
theorem w34_832 (c : Int) (Q : Fl → Loc → Prop) (X : XE) : wpB S34 ((bc34.drop 2).take 1) (l34 ns A C D (ks.map Tr.int) [("again", .val (.int ag)), ("head", .val (.int h)), ("check", .val (.int c))]) Q X = whW ks h fun n => 0 < (65535 : Int) ∧ Q .next (l34 ns A C D (ks.map Tr.int) [("again", .val (.int ag)), ("head", .val (.int h)), ("check", .val (.int c)), ("ident", .val (.int (65535 - n % 65535)))]) := by kernel_rfl
theorem w34_833 (c i : Int) (Q : Fl → Loc → Prop) (X : XE) : wpB S34 ((bc34.drop 3).take 1) (l34 ns A C D (ks.map Tr.int) [("again", .val (.int ag)), ("head", .val (.int h)), ("check", .val (.int c)), ("ident", .val (.int i))]) Q X = (0 < (256 : Int) ∧ (256 : Int).natAbs.log2 < 9000 ∧ setI ks 4 (.int (i / 256)) fun ys => Q .next (l34 ns A C D ys [("again", .val (.int ag)), ("head", .val (.int h)), ("check", .val (.int c)), ("ident", .val (.int i))])) := by kernel_rfl
theorem w34_834 (c i : Int) (Q : Fl → Loc → Prop) (X : XE) : wpB S34 ((bc34.drop 4).take 1) (l34 ns A C D (ks.map Tr.int) [("again", .val (.int ag)), ("head", .val (.int h)), ("check", .val (.int c)), ("ident", .val (.int i))]) Q X = (0 < (256 : Int) ∧ setI ks 5 (.int (i % 256)) fun ys => Q .next (l34 ns A C D ys [("again", .val (.int ag)), ("head", .val (.int h)), ("check", .val (.int c)), ("ident", .val (.int i))])) := by kernel_rfl
theorem w34_835 (c i : Int) (Q : Fl → Loc → Prop) (X : XE) : wpB S34 (bc34.drop 5) (l34 ns A C D (ks.map Tr.int) [("again", .val (.int ag)), ("head", .val (.int h)), ("check", .val (.int c)), ("ident", .val (.int i))]) (idQ Q) X = Q .next (l34 ns A C D (ks.map Tr.int) [("again", .val (.int ag)), ("head", .val (.int h)), ("check", .val (.int 65535)), ("ident", .val (.int i))]) := by kernel_rfl
theorem w34_84a (c : Int) (Q : Fl → Loc → Prop) (X : XE) : wpB S34 ((bb34.drop 4).take 1) (l34 ns A C D (ks.map Tr.int) [("again", .val (.int ag)), ("head", .val (.int h)), ("check", .val (.int c))]) Q X = (0 < (256 : Int) ∧ (256 : Int).natAbs.log2 < 9000 ∧ setI ks 10 (.int (c / 256)) fun ys => Q .next (l34 ns A C D ys [("again", .val (.int ag)), ("head", .val (.int h)), ("check", .val (.int c))])) := by kernel_rfl
theorem w34_85a (c : Int) (Q : Fl → Loc → Prop) (X : XE) : wpB S34 (bb34.drop 5) (l34 ns A C D (ks.map Tr.int) [("again", .val (.int ag)), ("head", .val (.int h)), ("check", .val (.int c))]) (idQ Q) X = (0 < (256 : Int) ∧ setI ks 11 (.int (c % 256)) fun ys => Q .next (l34 ns A C D ys [("again", .val (.int ag)), ("head", .val (.int h)), ("check", .val (.int c))])) := by kernel_rfl
theorem w34_84b (c i : Int) (Q : Fl → Loc → Prop) (X : XE) : wpB S34 ((bb34.drop 4).take 1) (l34 ns A C D (ks.map Tr.int) [("again", .val (.int ag)), ("head", .val (.int h)), ("check", .val (.int c)), ("ident", .val (.int i))]) Q X = (0 < (256 : Int) ∧ (256 : Int).natAbs.log2 < 9000 ∧ setI ks 10 (.int (c / 256)) fun ys => Q .next (l34 ns A C D ys [("again", .val (.int ag)), ("head", .val (.int h)), ("check", .val (.int c)), ("ident", .val (.int i))])) := by kernel_rfl
theorem w34_85b (c i : Int) (Q : Fl → Loc → Prop) (X : XE) : wpB S34 (bb34.drop 5) (l34 ns A C D (ks.map Tr.int) [("again", .val (.int ag)), ("head", .val (.int h)), ("check", .val (.int c)), ("ident", .val (.int i))]) (idQ Q) X = (0 < (256 : Int) ∧ setI ks 11 (.int (c % 256)) fun ys => Q .next (l34 ns A C D ys [("again", .val (.int ag)), ("head", .val (.int h)), ("check", .val (.int c)), ("ident", .val (.int i))])) := by kernel_rfl
theorem w34_9z (Q : Fl → Loc → Prop) (X : XE) : wpB S34 ((b34.drop 9).take 1) (l34 ns A C D (ks.map Tr.int) [("again", .val (.int ag)), ("head", .val (.int h))]) Q X = digW ns 25 fun s => Q .next (l34 ns A C D (ks.map Tr.int) [("again", .val (.int ag)), ("head", .val (.int h)), ("short", .val (.int s))]) := by kernel_rfl
theorem w34_10z (s : Int) (Q : Fl → Loc → Prop) (X : XE) : wpB S34 ((b34.drop 10).take 1) (l34 ns A C D (ks.map Tr.int) [("again", .val (.int ag)), ("head", .val (.int h)), ("short", .val (.int s))]) Q X = (0 < (2 : Int) ∧ ifW (s % 2 == 1) (0 < (2 : Int) ∧ (2 : Int).natAbs.log2 < 9000 ∧ (ks.map Tr.int).length ≤ big ∧ 0 < ((ks.map Tr.int).length : Int) + 1 ∧ True ∧ 0 ≤ s / 2 % (((ks.map Tr.int).length : Int) + 1) ∧ (ks.map Tr.int).length ≤ big ∧ Q (.ret (.list ((ks.map Tr.int).take (s / 2 % (((ks.map Tr.int).length : Int) + 1)).toNat))) (l34 ns A C D (ks.map Tr.int) [("again", .val (.int ag)), ("head", .val (.int h)), ("short", .val (.int s))])) (Q .next (l34 ns A C D (ks.map Tr.int) [("again", .val (.int ag)), ("head", .val (.int h)), ("short", .val (.int s))]))) := by kernel_rfl
theorem w34_11z (s : Int) (Q : Fl → Loc → Prop) (X : XE) : wpB S34 (b34.drop 11) (l34 ns A C D (ks.map Tr.int) [("again", .val (.int ag)), ("head", .val (.int h)), ("short", .val (.int s))]) Q X = Q (.retm "octets" (iL ks)) (l34 ns A C D (ks.map Tr.int) [("again", .val (.int ag)), ("head", .val (.int h)), ("short", .val (.int s))]) := by kernel_rfl
theorem e34z {Q : Tr → Prop} {X : XE} (hn : ns.length ≤ 1000) (ho : oct ks) (hl : ks.length ≤ 100) (hq : ∀ ks', oct ks' → ks'.length ≤ 100 → Q (.list (ks'.map Tr.int))) : wpB S34 (b34.drop 9) (l34 ns A C D (ks.map Tr.int) [("again", .val (.int ag)), ("head", .val (.int h))]) (endQ Q) X := by
  have hm : (ks.map Tr.int).length = ks.length := List.length_map _
  refine cut1 9 (use (w34_9z ns A C D ks ag h _ _) (digW_of hn (by decide) ?_))
  refine cut1 10 (use (w34_10z ns A C D ks ag h _ _ _) ⟨by decide, ifW_of (fun _ => ⟨by decide, by decide +kernel, by first | exact le_big (by assumption) | (rw [big_eq]; lia), by lia, trivial, Int.emod_nonneg _ (by lia), by first | exact le_big (by assumption) | (rw [big_eq]; lia), ?_⟩) fun _ => ?_⟩)
  · rw [← List.map_take]
    exact hq _ (oct_take ho _) (by rw [List.length_take]; lia)
  · exact use (w34_11z ns A C D ks ag h _ _ _) (hq _ ho hl)
theorem w34_9a (c : Int) (Q : Fl → Loc → Prop) (X : XE) : wpB S34 ((b34.drop 9).take 1) (l34 ns A C D (ks.map Tr.int) [("again", .val (.int ag)), ("head", .val (.int h)), ("check", .val (.int c))]) Q X = digW ns 25 fun s => Q .next (l34 ns A C D (ks.map Tr.int) [("again", .val (.int ag)), ("head", .val (.int h)), ("check", .val (.int c)), ("short", .val (.int s))]) := by kernel_rfl
theorem w34_10a (c : Int) (s : Int) (Q : Fl → Loc → Prop) (X : XE) : wpB S34 ((b34.drop 10).take 1) (l34 ns A C D (ks.map Tr.int) [("again", .val (.int ag)), ("head", .val (.int h)), ("check", .val (.int c)), ("short", .val (.int s))]) Q X = (0 < (2 : Int) ∧ ifW (s % 2 == 1) (0 < (2 : Int) ∧ (2 : Int).natAbs.log2 < 9000 ∧ (ks.map Tr.int).length ≤ big ∧ 0 < ((ks.map Tr.int).length : Int) + 1 ∧ True ∧ 0 ≤ s / 2 % (((ks.map Tr.int).length : Int) + 1) ∧ (ks.map Tr.int).length ≤ big ∧ Q (.ret (.list ((ks.map Tr.int).take (s / 2 % (((ks.map Tr.int).length : Int) + 1)).toNat))) (l34 ns A C D (ks.map Tr.int) [("again", .val (.int ag)), ("head", .val (.int h)), ("check", .val (.int c)), ("short", .val (.int s))])) (Q .next (l34 ns A C D (ks.map Tr.int) [("again", .val (.int ag)), ("head", .val (.int h)), ("check", .val (.int c)), ("short", .val (.int s))]))) := by kernel_rfl
theorem w34_11a (c : Int) (s : Int) (Q : Fl → Loc → Prop) (X : XE) : wpB S34 (b34.drop 11) (l34 ns A C D (ks.map Tr.int) [("again", .val (.int ag)), ("head", .val (.int h)), ("check", .val (.int c)), ("short", .val (.int s))]) Q X = Q (.retm "octets" (iL ks)) (l34 ns A C D (ks.map Tr.int) [("again", .val (.int ag)), ("head", .val (.int h)), ("check", .val (.int c)), ("short", .val (.int s))]) := by kernel_rfl
theorem e34a (c : Int) {Q : Tr → Prop} {X : XE} (hn : ns.length ≤ 1000) (ho : oct ks) (hl : ks.length ≤ 100) (hq : ∀ ks', oct ks' → ks'.length ≤ 100 → Q (.list (ks'.map Tr.int))) : wpB S34 (b34.drop 9) (l34 ns A C D (ks.map Tr.int) [("again", .val (.int ag)), ("head", .val (.int h)), ("check", .val (.int c))]) (endQ Q) X := by
  have hm : (ks.map Tr.int).length = ks.length := List.length_map _
  refine cut1 9 (use (w34_9a ns A C D ks ag h c _ _) (digW_of hn (by decide) ?_))
  refine cut1 10 (use (w34_10a ns A C D ks ag h c _ _ _) ⟨by decide, ifW_of (fun _ => ⟨by decide, by decide +kernel, by first | exact le_big (by assumption) | (rw [big_eq]; lia), by lia, trivial, Int.emod_nonneg _ (by lia), by first | exact le_big (by assumption) | (rw [big_eq]; lia), ?_⟩) fun _ => ?_⟩)
  · rw [← List.map_take]
    exact hq _ (oct_take ho _) (by rw [List.length_take]; lia)
  · exact use (w34_11a ns A C D ks ag h c _ _ _) (hq _ ho hl)
theorem w34_9b (c i : Int) (Q : Fl → Loc → Prop) (X : XE) : wpB S34 ((b34.drop 9).take 1) (l34 ns A C D (ks.map Tr.int) [("again", .val (.int ag)), ("head", .val (.int h)), ("check", .val (.int c)), ("ident", .val (.int i))]) Q X = digW ns 25 fun s => Q .next (l34 ns A C D (ks.map Tr.int) [("again", .val (.int ag)), ("head", .val (.int h)), ("check", .val (.int c)), ("ident", .val (.int i)), ("short", .val (.int s))]) := by kernel_rfl
theorem w34_10b (c i : Int) (s : Int) (Q : Fl → Loc → Prop) (X : XE) : wpB S34 ((b34.drop 10).take 1) (l34 ns A C D (ks.map Tr.int) [("again", .val (.int ag)), ("head", .val (.int h)), ("check", .val (.int c)), ("ident", .val (.int i)), ("short", .val (.int s))]) Q X = (0 < (2 : Int) ∧ ifW (s % 2 == 1) (0 < (2 : Int) ∧ (2 : Int).natAbs.log2 < 9000 ∧ (ks.map Tr.int).length ≤ big ∧ 0 < ((ks.map Tr.int).length : Int) + 1 ∧ True ∧ 0 ≤ s / 2 % (((ks.map Tr.int).length : Int) + 1) ∧ (ks.map Tr.int).length ≤ big ∧ Q (.ret (.list ((ks.map Tr.int).take (s / 2 % (((ks.map Tr.int).length : Int) + 1)).toNat))) (l34 ns A C D (ks.map Tr.int) [("again", .val (.int ag)), ("head", .val (.int h)), ("check", .val (.int c)), ("ident", .val (.int i)), ("short", .val (.int s))])) (Q .next (l34 ns A C D (ks.map Tr.int) [("again", .val (.int ag)), ("head", .val (.int h)), ("check", .val (.int c)), ("ident", .val (.int i)), ("short", .val (.int s))]))) := by kernel_rfl
theorem w34_11b (c i : Int) (s : Int) (Q : Fl → Loc → Prop) (X : XE) : wpB S34 (b34.drop 11) (l34 ns A C D (ks.map Tr.int) [("again", .val (.int ag)), ("head", .val (.int h)), ("check", .val (.int c)), ("ident", .val (.int i)), ("short", .val (.int s))]) Q X = Q (.retm "octets" (iL ks)) (l34 ns A C D (ks.map Tr.int) [("again", .val (.int ag)), ("head", .val (.int h)), ("check", .val (.int c)), ("ident", .val (.int i)), ("short", .val (.int s))]) := by kernel_rfl
theorem e34b (c i : Int) {Q : Tr → Prop} {X : XE} (hn : ns.length ≤ 1000) (ho : oct ks) (hl : ks.length ≤ 100) (hq : ∀ ks', oct ks' → ks'.length ≤ 100 → Q (.list (ks'.map Tr.int))) : wpB S34 (b34.drop 9) (l34 ns A C D (ks.map Tr.int) [("again", .val (.int ag)), ("head", .val (.int h)), ("check", .val (.int c)), ("ident", .val (.int i))]) (endQ Q) X := by
  have hm : (ks.map Tr.int).length = ks.length := List.length_map _
  refine cut1 9 (use (w34_9b ns A C D ks ag h c i _ _) (digW_of hn (by decide) ?_))
  refine cut1 10 (use (w34_10b ns A C D ks ag h c i _ _ _) ⟨by decide, ifW_of (fun _ => ⟨by decide, by decide +kernel, by first | exact le_big (by assumption) | (rw [big_eq]; lia), by lia, trivial, Int.emod_nonneg _ (by lia), by first | exact le_big (by assumption) | (rw [big_eq]; lia), ?_⟩) fun _ => ?_⟩)
  · rw [← List.map_take]
    exact hq _ (oct_take ho _) (by rw [List.length_take]; lia)
  · exact use (w34_11b ns A C D ks ag h c i _ _ _) (hq _ ho hl)
end
include B in
theorem c_any : Contract prg w (g0 w.params) h₀ 3 (.ref 266) sAny :=
  mkC (n := 2) (ex := exN) (l := [("_law_digit", .fn sDigit), ("_law_some", .new sSome), ("_law_head", .fn sHead2), ("_law_hurt", .mu sHurt), ("_law_whole", .fn sWhole)]) (i := 34) (cd := 265) (name := "_law_any") (names := ["script"]) (pym := .str "law_pf0339_01" 418) B (by kernel_rfl) (by kernel_rfl) (fun vs h => by
    obtain ⟨a, rfl⟩ := len1 h
    kernel_rfl) (by kernel_rfl) exN_ok (.fn (by kernel_rfl) (by decide) (c_digit B) (.new (by kernel_rfl) (by decide) (c_some B) (.fn (by kernel_rfl) (by decide) (c_hd B) (.mu (by kernel_rfl) (by decide) (c_hurt B) (.fn (by kernel_rfl) (by decide) (c_whole B) .nil))))) fun ts Q X h => by
    replace h := oneL_of h
    obtain ⟨xs, rfl, h⟩ := h
    · obtain ⟨ns, rfl, hn, hq⟩ := h
      refine ⟨rfl, show wpB S34 (b34.drop 0) _ _ _ from cut1 0 (use (w34_0 ns _ _) (digW_of hn (by decide) (digW_of hn (by decide) ⟨by decide, IntMulOk.of_right (by decide +kernel), someW_of (by lia) (by lia) fun o ho hol => ?_⟩)))⟩
      refine cut1 1 (use (w34_1 ns o _ _) (digW_of hn (by decide) (digW_of hn (by decide) ⟨by decide, someW_of (by lia) (by lia) fun d hd hdl => ?_⟩)))
      have hol' : o.length ≤ 8 := by lia
      have hdl' : d.length ≤ 5 := by lia
      clear hol hdl
      have hmo : (o.map Tr.int).length = o.length := List.length_map _
      have hmd : (d.map Tr.int).length = d.length := List.length_map _
      refine cut1 2 (use (w34_2 ns o d _ _) (digW_of hn (by decide) ⟨by decide, ?_⟩))
      have he : 0 ≤ dig ns (13 : Int).toNat % 65536 ∧ dig ns (13 : Int).toNat % 65536 < 65536 := by lia
      generalize dig ns (13 : Int).toNat % 65536 = e at *
      have hpl := pad_len o
      have hhl := (x34 e).headL_len (pad o) (20 + ((o.map Tr.int).length : Int) + ((d.map Tr.int).length : Int))
      have hho := (x34 e).headL_oct (pad o) (20 + ((o.map Tr.int).length : Int) + ((d.map Tr.int).length : Int))
      refine cut1 3 (use (w34_3 ns o d e _ _) ⟨by first | exact le_big (by assumption) | (rw [big_eq]; lia), by first | exact le_big (by assumption) | (rw [big_eq]; lia), o, rfl, ho, by lia, by lia, x34_fits he, by rw [List.length_map, hhl, big_eq]; lia, ?_⟩)
      generalize (x34 e).headL (pad o) (20 + ((o.map Tr.int).length : Int) + ((d.map Tr.int).length : Int)) = hd1 at *
      rw [← List.map_append]
      have hk1 : oct (hd1 ++ d) := oct_append.mpr ⟨hho, hd⟩
      have hk1l : 20 ≤ (hd1 ++ d).length ∧ (hd1 ++ d).length ≤ 40 := by rw [List.length_append]; lia
      generalize hd1 ++ d = k1 at *
      generalize (x34 e).tr = D
      refine cut1 4 (use (w34_4 ns (iL o) (iL d) D _ _ _) (digW_of hn (by decide) (digW_of hn (by decide) ⟨by decide, someW_of (by lia) (by lia) fun t ht htl => ⟨by rw [List.length_map, List.length_map, big_eq]; lia, ?_⟩⟩)))
      rw [← List.map_append]
      have hk2 : oct (k1 ++ t) := oct_append.mpr ⟨hk1, ht⟩
      have hk2l : 20 ≤ (k1 ++ t).length ∧ (k1 ++ t).length ≤ 50 := by rw [List.length_append]; lia
      generalize k1 ++ t = k2 at *
      generalize iL o = A
      generalize iL d = C
      clear hk1 hk1l ht htl hho hhl hpl hmo hmd ho hd
      refine cut1 5 (use (w34_5 ns A C D _ _ _) (digW_of hn (by decide) ⟨by decide, by have : (big : Int) = 16777216 := rfl; lia, by have : (big : Int) = 16777216 := rfl; lia, forK_of (σ := List Int) (fun _ k => oct k ∧ k.length = k2.length) (fun k => l34 ns A C D (k.map Tr.int) []) k2 rfl ⟨hk2, rfl⟩ (fun i x s hx hs => ?_) fun s hs => ?_⟩))
      · rw [List.getElem?_map] at hx
        obtain ⟨j, hj, rfl⟩ := Option.map_eq_some_iff.mp hx
        have hj0 : 0 ≤ j := by
          unfold rangeL at hj
          rw [List.getElem?_map] at hj
          obtain ⟨q, _, rfl⟩ := Option.map_eq_some_iff.mp hj
          lia
        exact turn_of (l34 ns A C D (s.map Tr.int) [("k", .val (.int j))]) (by kernel_rfl) (w34t ns A C D _ j _ _ _) (digW_of hn (by lia) ⟨rfl, s, rfl, hs.1, by lia, by lia, fun ks' a b => ⟨ks', rfl, a, b.trans hs.2⟩⟩)
      · have hsl : 20 ≤ s.length ∧ s.length ≤ 50 := by lia
        have hso := hs.1
        clear hs hk2 hk2l
        show wpB S34 (b34.drop 6) (l34 ns A C D (s.map Tr.int) []) _ _
        refine cut1 6 (use (w34_6 ns A C D _ _ _) (digW_of hn (by decide) ⟨by decide, ?_⟩))
        generalize dig ns (24 : Int).toNat % 3 = ag
        refine cut1 7 (use (w34_7 ns A C D s ag _ _) (itT_of 0 (by lia) (by lia) ⟨by decide, IntMulOk.of_left (by decide +kernel), ?_⟩))
        have hh : 0 ≤ 4 * (dig s 0 % 16) := by lia
        generalize 4 * (dig s 0 % 16) = h at *
        have hm : (s.map Tr.int).length = s.length := List.length_map _
        have out_ : wpB S34 (b34.drop 9) (l34 ns A C D (s.map Tr.int) [("again", .val (.int ag)), ("head", .val (.int h))]) (endQ Q) (fun C y _ => X C y) := e34z ns A C D s ag h hn hso (by lia) hq
        refine cut1 8 (use (w34_8 ns A C D s ag h _ _) (and_if (fun _ => ⟨fun _ => ⟨by first | exact le_big (by assumption) | (rw [big_eq]; lia), and_last (fun _ => ?_) fun _ => out_⟩, fun _ => ⟨fun q => (nomatch q), fun _ => ⟨fun q => (nomatch q), fun _ => out_⟩⟩⟩) fun _ => out_))
        clear out_
        refine (show wpB S34 (bb34.drop 0) _ _ _ from cut1 0 (use (w34_80 ns A C D s ag h _ _) (setI_of (by lia) (by decide) (by lia) ?_)))
        have a1 := oct_set hso (k := (10 : Int).toNat) (v := 0) (by decide)
        have b1 : (s.set (10 : Int).toNat 0).length = s.length := List.length_set
        generalize s.set (10 : Int).toNat 0 = s1 at *
        refine cut1 1 (use (w34_81 ns A C D s1 ag h _ _) (setI_of (by lia) (by decide) (by lia) ?_))
        have a2 := oct_set a1 (k := (11 : Int).toNat) (v := 0) (by decide)
        have b2 : (s1.set (11 : Int).toNat 0).length = s1.length := List.length_set
        generalize s1.set (11 : Int).toNat 0 = s2 at *
        refine cut1 2 (use (w34_82 ns A C D s2 ag h _ _) (whW_of a2 (by lia) hh fun n => ⟨by decide, ?_⟩))
        have hc : 0 ≤ 65534 - (n - 1) % 65535 ∧ 65534 - (n - 1) % 65535 < 65536 := by lia
        generalize 65534 - (n - 1) % 65535 = c at *
        refine cut1 3 (use (w34_83 ns A C D s2 ag h c _ _) (ifW_of (fun _ => ?_) fun _ => ?_))
        · refine (show wpB S34 (bc34.drop 0) _ _ _ from cut1 0 (use (w34_830 ns A C D s2 ag h c _ _) (setI_of (by lia) (by decide) (by lia) ?_)))
          have a3 := oct_set a2 (k := (4 : Int).toNat) (v := 0) (by decide)
          have b3 : (s2.set (4 : Int).toNat 0).length = s2.length := List.length_set
          generalize s2.set (4 : Int).toNat 0 = s3 at *
          refine cut1 1 (use (w34_831 ns A C D s3 ag h c _ _) (setI_of (by lia) (by decide) (by lia) ?_))
          have a4 := oct_set a3 (k := (5 : Int).toNat) (v := 0) (by decide)
          have b4 : (s3.set (5 : Int).toNat 0).length = s3.length := List.length_set
          generalize s3.set (5 : Int).toNat 0 = s4 at *
          refine cut1 2 (use (w34_832 ns A C D s4 ag h c _ _) (whW_of a4 (by lia) hh fun n2 => ⟨by decide, ?_⟩))
          have hi : 0 ≤ 65535 - n2 % 65535 ∧ 65535 - n2 % 65535 < 65536 := by lia
          generalize 65535 - n2 % 65535 = i at *
          refine cut1 3 (use (w34_833 ns A C D s4 ag h c i _ _) ⟨by decide, by decide +kernel, setI_of (by lia) (by decide) (by lia) ?_⟩)
          have a5 := oct_set a4 (k := (4 : Int).toNat) (v := i / 256) (by lia)
          have b5 : (s4.set (4 : Int).toNat (i / 256)).length = s4.length := List.length_set
          generalize s4.set (4 : Int).toNat (i / 256) = s5 at *
          refine cut1 4 (use (w34_834 ns A C D s5 ag h c i _ _) ⟨by decide, setI_of (by lia) (by decide) (by lia) ?_⟩)
          have a6 := oct_set a5 (k := (5 : Int).toNat) (v := i % 256) (by lia)
          have b6 : (s5.set (5 : Int).toNat (i % 256)).length = s5.length := List.length_set
          generalize s5.set (5 : Int).toNat (i % 256) = s6 at *
          refine use (w34_835 ns A C D s6 ag h c i _ _) ?_
          refine cut1 4 (use (w34_84b ns A C D s6 ag h 65535 i _ _) ⟨by decide, by decide +kernel, setI_of (by lia) (by decide) (by lia) ?_⟩)
          have a7 := oct_set a6 (k := (10 : Int).toNat) (v := 65535 / 256) (by lia)
          have b7 : (s6.set (10 : Int).toNat (65535 / 256)).length = s6.length := List.length_set
          generalize s6.set (10 : Int).toNat (65535 / 256) = s7 at *
          refine use (w34_85b ns A C D s7 ag h 65535 i _ _) ⟨by decide, setI_of (by lia) (by decide) (by lia) ?_⟩
          exact e34b ns A C D _ ag h 65535 i hn (oct_set a7 (by lia)) (by rw [List.length_set]; lia) hq
        · refine cut1 4 (use (w34_84a ns A C D s2 ag h c _ _) ⟨by decide, by decide +kernel, setI_of (by lia) (by decide) (by lia) ?_⟩)
          have a7 := oct_set a2 (k := (10 : Int).toNat) (v := c / 256) (by lia)
          have b7 : (s2.set (10 : Int).toNat (c / 256)).length = s2.length := List.length_set
          generalize s2.set (10 : Int).toNat (c / 256) = s7 at *
          refine use (w34_85a ns A C D s7 ag h c _ _) ⟨by decide, setI_of (by lia) (by decide) (by lia) ?_⟩
          exact e34a ns A C D _ ag h c hn (oct_set a7 (by lia)) (by rw [List.length_set]; lia) hq
end
end Mine
end
section
open PySem PySem.W PySem.Spec PySem.Calls PyProof.Rows
set_option Elab.async false
namespace Mine
set_option tactic.hygienic false
set_option maxRecDepth 100000
theorem emod_lt' {n m : Int} (h0 : 0 ≤ n) (h1 : n < m) : n % m = n := Int.emod_eq_of_lt h0 h1
theorem odd_iff (x : Nine) (o d : List Int) : (x.ip o d).odd ↔ x.odd := by
  unfold Ip.odd Nine.odd Nine.ip
  dsimp only
  constructor
  · rintro (h | h | h | h | h)
    · exact .inr (.inr (.inr (.inl h)))
    · exact .inr (.inr (.inr (.inr h)))
    · exact .inl h
    · exact .inr (.inl h)
    · exact .inr (.inr (.inl h))
  · rintro (h | h | h | h | h)
    · exact .inr (.inr (.inl h))
    · exact .inr (.inr (.inr (.inl h)))
    · exact .inr (.inr (.inr (.inr h)))
    · exact .inl h
    · exact .inr (.inl h)
theorem fits_iff {x : Nine} (o d : List Int) (h : ¬ x.odd) : (x.ip o d).fits ↔ x.fits := by
  have h' : ¬ (7 < x.f ∨ 65528 < x.g ∨ x.g % 8 ≠ 0 ∨ 63 < x.h ∨ 3 < x.i) := h
  unfold Ip.fits Nine.fits Nine.ip
  dsimp only
  rw [show (256 : Int) ^ 4 = 2 ^ 32 by decide]
  constructor
  · rintro ⟨a, b, c, d, e, f, g, h, i⟩
    exact ⟨a, b, c, d, e, ⟨f, by lia⟩, ⟨g, by lia⟩, ⟨h, by lia⟩, ⟨i, by lia⟩⟩
  · rintro ⟨a, b, c, d, e, f, g, h, i⟩
    exact ⟨a, b, c, d, e, f.1, g.1, h.1, i.1⟩
/-- a head's number without the check -/
noncomputable def Ip.high (i : Ip) : Int := (((((69 + ((pad i.opts).length : Int) / 4) * 256 + (i.dscp * 4 + i.ecn)) * 65536 + i.total) * 65536 + i.ident) * 65536 + (i.flags * 8192 + i.place / 8)) * 256 * 256 + i.ttl * 256 + i.pro
theorem first_num {i : Ip} (ho : i.opts.length ≤ 40) (hd : i.data.length ≤ 1000) (hodd : ¬ i.odd) (hf : i.fits) : num i.first = i.high := by
  have hpl := pad_len i.opts
  have hodd' : ¬ (63 < i.dscp ∨ 3 < i.ecn ∨ 7 < i.flags ∨ 65528 < i.place ∨ i.place % 8 ≠ 0) := hodd
  obtain ⟨h1, h2, h3, h4, h5, h6, h7, h8, h9⟩ := hf
  have ht : i.total = 20 + (pad i.opts).length + i.data.length := rfl
  unfold Ip.first Ip.high
  simp only [num_append, be_len, num_be, List.length_append]
  rw [emod_lt' (n := 69 + ((pad i.opts).length : Int) / 4) (by lia) (by lia), emod_lt' (n := i.dscp * 4 + i.ecn) (by lia) (by lia), emod_lt' (n := i.total) (by lia) (by lia), emod_lt' (n := i.ident) (by lia) (by lia), emod_lt' (n := i.flags * 8192 + i.place / 8) (by lia) (by lia), emod_lt' (n := i.ttl) (by lia) (by lia), emod_lt' (n := i.pro) (by lia) (by lia)]
  simp only [Nat.reduceAdd, Int.reducePow]
  lia
theorem behind_num {i : Ip} (hf : i.fits) : num i.behind = (i.src * 2 ^ 32 + i.tgt) * 256 ^ (pad i.opts).length + num (pad i.opts) := by
  obtain ⟨h1, h2, _⟩ := hf
  unfold Ip.behind
  simp only [num_append, be_len, num_be, List.length_append]
  rw [emod_lt' h1.1 h1.2, emod_lt' h2.1 h2.2]
  rw [show (256 : Int) ^ 4 = 2 ^ 32 by decide]
theorem check_eq {W V K : Int} (hV : 0 < V) (h : W = V + 65535 * K) : 65535 - fold V = 65534 - (W - 1) % 65535 := by
  unfold fold
  rw [if_neg (by lia)]
  lia
theorem written_eq {x : Nine} {o d : List Int} (ho : oct o) (hol : o.length ≤ 40) (hd : d.length ≤ 1000) (hodd : ¬ x.odd) (hf : x.fits) : (x.ip o d).written = x.headL (pad o) (20 + (pad o).length + d.length) ++ d := by
  have hodd' : ¬ (x.ip o d).odd := fun q => hodd ((odd_iff x o d).mp q)
  have hf' := (fits_iff o d hodd).mpr hf
  have e1 := first_num (i := x.ip o d) hol hd hodd' hf'
  have e2 := behind_num hf'
  have hpl := pad_len o
  have lf : (x.ip o d).first.length = 10 := by unfold Ip.first; simp only [List.length_append, be_len]
  have lb : (x.ip o d).behind.length = 8 + (pad o).length := by unfold Ip.behind; simp only [List.length_append, be_len]; rfl
  have of : oct (x.ip o d).first := oct_append.mpr ⟨oct_append.mpr ⟨oct_append.mpr ⟨oct_append.mpr ⟨be_oct _ _, be_oct _ _⟩, be_oct _ _⟩, oct_append.mpr ⟨be_oct _ _, be_oct _ _⟩⟩, oct_append.mpr ⟨be_oct _ _, be_oct _ _⟩⟩
  have ob : oct (x.ip o d).behind := oct_append.mpr ⟨oct_append.mpr ⟨be_oct _ _, be_oct _ _⟩, pad_oct ho⟩
  unfold Ip.written
  show _ ++ d = _
  congr 1
  generalize hF : (x.ip o d).first = F at *
  generalize hB : (x.ip o d).behind = B at *
  have hh : 0 < (x.ip o d).high := by
    obtain ⟨h1, h2, h3, h4, h5, h6, h7, h8, h9⟩ := hf
    have ht : (x.ip o d).total = 20 + (pad o).length + d.length := rfl
    unfold Ip.high
    show 0 < (((((69 + ((pad o).length : Int) / 4) * 256 + (x.h * 4 + x.i)) * 65536 + (x.ip o d).total) * 65536 + x.e) * 65536 + (x.f * 8192 + x.g / 8)) * 256 * 256 + x.d * 256 + x.c
    lia
  have hp := pow256_pos (8 + (pad o).length)
  have hB0 := (num_bound ob).1
  have hV : 0 < num (F ++ B) := by
    rw [num_append, e1, lb]
    have := Int.mul_pos hh hp
    lia
  have hW : wholeOf x.a x.b x.c x.d x.e x.f x.g x.h x.i (pad o) (20 + (pad o).length + d.length) = (x.ip o d).high * 65536 * 256 ^ (8 + (pad o).length) + num B := by
    rw [e2]
    unfold wholeOf Ip.high
    show _ = ((((((69 + ((pad o).length : Int) / 4) * 256 + (x.h * 4 + x.i)) * 65536 + (20 + (pad o).length + d.length)) * 65536 + x.e) * 65536 + (x.f * 8192 + x.g / 8)) * 256 * 256 + x.d * 256 + x.c) * 65536 * 256 ^ (8 + (pad o).length) + ((x.a * 2 ^ 32 + x.b) * 256 ^ (pad o).length + num (pad o))
    have hs : ((((((((64 + 5 + ((pad o).length : Int) / 4) * 256 + 4 * x.h + x.i) * 65536 + (20 + (pad o).length + d.length)) * 65536 + x.e) * 65536 + 8192 * x.f + x.g / 8) * 256 + x.d) * 256 + x.c) * 65536 * 2 ^ 32 + x.a) * 2 ^ 32 + x.b = ((((((69 + ((pad o).length : Int) / 4) * 256 + (x.h * 4 + x.i)) * 65536 + (20 + (pad o).length + d.length)) * 65536 + x.e) * 65536 + (x.f * 8192 + x.g / 8)) * 256 * 256 + x.d * 256 + x.c) * 65536 * 256 ^ 8 + (x.a * 2 ^ 32 + x.b) := by
      simp only [Int.reducePow]
      lia
    rw [hs, Int.pow_add, Int.add_mul, Int.mul_assoc _ (256 ^ 8), Int.add_assoc]
  have hC : 65535 - fold (num (F ++ B)) = 65534 - (wholeOf x.a x.b x.c x.d x.e x.f x.g x.h x.i (pad o) (20 + (pad o).length + d.length) - 1) % 65535 := by
    refine check_eq hV (K := (x.ip o d).high * 256 ^ (8 + (pad o).length)) ?_
    rw [hW, num_append, e1, lb, Int.mul_right_comm (x.ip o d).high 65536]
    generalize (x.ip o d).high * 256 ^ (8 + (pad o).length) = Z
    generalize num B = Y
    lia
  have hCb : 0 ≤ 65534 - (wholeOf x.a x.b x.c x.d x.e x.f x.g x.h x.i (pad o) (20 + (pad o).length + d.length) - 1) % 65535 ∧ 65534 - (wholeOf x.a x.b x.c x.d x.e x.f x.g x.h x.i (pad o) (20 + (pad o).length + d.length) - 1) % 65535 < 256 ^ 2 := by
    have : (256 : Int) ^ 2 = 65536 := by decide
    lia
  unfold Nine.headL headL
  rw [hC]
  generalize 65534 - (wholeOf x.a x.b x.c x.d x.e x.f x.g x.h x.i (pad o) (20 + (pad o).length + d.length) - 1) % 65535 = C at *
  rw [hW]
  have hl : (F ++ be C 2 ++ B).length = 20 + (pad o).length := by rw [List.length_append, List.length_append, be_len, lf, lb]; lia
  have hn : num (F ++ be C 2 ++ B) = (x.ip o d).high * 65536 * 256 ^ (8 + (pad o).length) + num B + C * 256 ^ (8 + (pad o).length) := by
    rw [num_append, num_append, be_len, num_be, e1, lb, emod_lt' hCb.1 hCb.2, Int.add_mul]
    have : (256 : Int) ^ 2 = 65536 := by decide
    rw [this]
    generalize (x.ip o d).high * 65536 * 256 ^ (8 + (pad o).length) = Z
    generalize C * 256 ^ (8 + (pad o).length) = Y
    lia
  have := be_num (oct_append.mpr ⟨oct_append.mpr ⟨of, be_oct C 2⟩, ob⟩)
  rw [hn, hl] at this
  exact this.symm
end Mine
end
section
open PySem PySem.W PySem.Spec PySem.Calls PyProof.Rows
set_option Elab.async false
namespace Mine
set_option tactic.hygienic false
set_option maxRecDepth 100000
theorem sl_app {ks : List Int} {a b c : Nat} (h1 : a ≤ b) (h2 : b ≤ c) : sl ks a b ++ sl ks b c = sl ks a c := by
  unfold sl
  have e : ks.take b = (ks.take c).take b := by rw [List.take_take, Nat.min_eq_left h2]
  rw [e]
  generalize ks.take c = r
  rw [List.drop_take]
  have : r.drop b = (r.drop a).drop (b - a) := by rw [List.drop_drop]; congr 1; lia
  rw [this, List.take_append_drop]
theorem sl_zero (ks : List Int) (b : Nat) : sl ks 0 b = ks.take b := rfl
theorem be_sl {ks : List Int} (ho : oct ks) {a b : Nat} (h : b ≤ ks.length) : be (num (sl ks a b)) (b - a) = sl ks a b := by
  have := be_num (sl_oct ho a b)
  rw [sl_len h] at this
  exact this
theorem headR_ok {ks : List Int} {h t : Int} (e : headR ks = .ok (h, t)) : 20 ≤ ks.length ∧ dig ks 0 / 16 = 4 ∧ h = dig ks 0 % 16 * 4 ∧ t = 256 * dig ks 2 + dig ks 3 ∧ 20 ≤ h ∧ h ≤ t ∧ t ≤ ks.length ∧ fold (num (ks.take h.toNat)) = 65535 := by
  unfold headR at e
  split at e
  · cases e
  · split at e
    · cases e
    · split at e
      · cases e
      · split at e
        · cases e
        · split at e
          · cases e
          · rename_i h1 h2 h3 h4 h5
            cases e
            refine ⟨by lia, by lia, rfl, rfl, by lia, by lia, by lia, ?_⟩
            by_cases q : fold (num (ks.take (dig ks 0 % 16 * 4).toNat)) = 65535
            · exact q
            · exact absurd q h5
/-- what is read can be written -/
theorem read_ok {ks : List Int} {h t : Int} (ho : oct ks) (hl : ks.length ≤ 1000) (e : headR ks = .ok (h, t)) : ipOk (readIp ks h t) ∧ oct (readIp ks h t).data ∧ oct (readIp ks h t).opts ∧ (readIp ks h t).opts.length ≤ 40 ∧ ¬ (readIp ks h t).odd ∧ (readIp ks h t).fits ∧ small (readIp ks h t).dscp ∧ small (readIp ks h t).flags := by
  obtain ⟨h20, hv, e1, e2, i1, i2, i3, hs⟩ := headR_ok e
  have n1 := num_bound (sl_oct ho 12 16)
  have n2 := num_bound (sl_oct ho 16 20)
  have n3 := num_bound (sl_oct ho 4 6)
  have n4 := num_bound (sl_oct ho 6 8)
  rw [sl_len (by exact Nat.le_trans (by decide) h20)] at n1 n2 n3 n4
  have d1 := dig_oct ho 1
  have d8 := dig_oct ho 8
  have d9 := dig_oct ho 9
  have lo : (sl ks 20 h.toNat).length = h.toNat - 20 := sl_len (by lia)
  have ld : (sl ks h.toNat t.toNat).length = t.toNat - h.toNat := sl_len (by lia)
  simp only [Nat.reduceSub, Int.reducePow] at n1 n2 n3 n4
  refine ⟨⟨by show (sl ks 20 h.toNat).length ≤ 1000; lia, by show (sl ks h.toNat t.toNat).length ≤ 1000; lia⟩, sl_oct ho _ _, sl_oct ho _ _, by show (sl ks 20 h.toNat).length ≤ 40; lia, ?_, ?_, ?_, ?_⟩
  · show ¬ (63 < dig ks 1 / 4 ∨ 3 < dig ks 1 % 4 ∨ 7 < num (sl ks 6 8) / 8192 ∨ 65528 < num (sl ks 6 8) % 8192 * 8 ∨ num (sl ks 6 8) % 8192 * 8 % 8 ≠ 0)
    lia
  · show (0 ≤ num (sl ks 12 16) ∧ num (sl ks 12 16) < 256 ^ 4) ∧ (0 ≤ num (sl ks 16 20) ∧ num (sl ks 16 20) < 256 ^ 4) ∧ (0 ≤ dig ks 9 ∧ dig ks 9 < 256) ∧ (0 ≤ dig ks 8 ∧ dig ks 8 < 256) ∧ (0 ≤ num (sl ks 4 6) ∧ num (sl ks 4 6) < 65536) ∧ 0 ≤ num (sl ks 6 8) / 8192 ∧ 0 ≤ num (sl ks 6 8) % 8192 * 8 ∧ 0 ≤ dig ks 1 / 4 ∧ 0 ≤ dig ks 1 % 4
    simp only [Int.reducePow]
    omega
  · exact Nat.le_trans (bits_le (n := 64) (x := dig ks 1 / 4) (by lia) (by lia)) (by decide)
  · exact Nat.le_trans (bits_le (n := 64) (x := num (sl ks 6 8) / 8192) (by lia) (by lia)) (by decide)
/-- a head whose check is all ones is written with nought -/
noncomputable def fixed (r : List Int) : List Int := if dig r 10 = 255 ∧ dig r 11 = 255 then r.take 10 ++ [0, 0] ++ r.drop 12 else r
theorem pow_mod (m : Nat) : ∃ k : Int, (256 : Int) ^ (2 * m) = 1 + 65535 * k := by
  induction m with
  | zero => exact ⟨0, rfl⟩
  | succ m ih =>
    obtain ⟨k, hk⟩ := ih
    refine ⟨1 + 65536 * k, ?_⟩
    rw [show 2 * (m + 1) = 2 * m + 2 by lia, Int.pow_add, hk, show (256 : Int) ^ 2 = 65536 by decide]
    lia
theorem rewritten {ks : List Int} {h t : Int} (ho : oct ks) (hl : ks.length ≤ 1000) (e : headR ks = .ok (h, t)) : (readIp ks h t).written = fixed (ks.take t.toNat) := by
  obtain ⟨h20, hv, e1, e2, i1, i2, i3, hs⟩ := headR_ok e
  have up : ∀ k, k ≤ 20 → k ≤ ks.length := fun k h => Nat.le_trans h h20
  have d0 := dig_oct ho 0
  have d1 := dig_oct ho 1
  have d2 := dig_oct ho 2
  have d3 := dig_oct ho 3
  have d8 := dig_oct ho 8
  have d9 := dig_oct ho 9
  have n4 := num_bound (sl_oct ho 6 8)
  rw [sl_len (by first | exact up _ (by decide) | lia)] at n4
  simp only [Nat.reduceSub, Int.reducePow] at n4
  obtain ⟨hn, rfl⟩ := Int.eq_ofNat_of_zero_le (show 0 ≤ h by lia)
  obtain ⟨tn, rfl⟩ := Int.eq_ofNat_of_zero_le (show 0 ≤ t by lia)
  rw [Int.toNat_natCast] at hs ⊢
  have j1 : 20 ≤ hn := by lia
  have j2 : hn ≤ tn := by lia
  have j3 : tn ≤ ks.length := by lia
  have j4 : hn % 4 = 0 := by lia
  have hpad : pad (sl ks 20 hn) = sl ks 20 hn := by
    unfold pad
    rw [sl_len (by first | exact up _ (by decide) | lia)]
    rw [show (-((hn - 20 : Nat) : Int) % 4).toNat = 0 by lia]
    exact List.append_nil _
  have hopt : (readIp ks hn tn).opts = sl ks 20 hn := rfl
  have hdat : (readIp ks hn tn).data = sl ks hn tn := rfl
  have htot : (readIp ks hn tn).total = 256 * dig ks 2 + dig ks 3 := by
    unfold Ip.total
    rw [hopt, hdat, hpad, sl_len (by first | exact up _ (by decide) | lia), sl_len (by first | exact up _ (by decide) | lia)]
    lia
  have q1 : be (69 + ((sl ks 20 hn).length : Int) / 4) 1 = sl ks 0 1 := by
    rw [sl_len (by first | exact up _ (by decide) | lia), show 69 + ((hn - 20 : Nat) : Int) / 4 = num (sl ks 0 (0 + 1)) by rw [num_one (by first | exact up _ (by decide) | lia)]; lia]
    exact be_sl ho (by first | exact up _ (by decide) | lia)
  have q2 : be (dig ks 1 / 4 * 4 + dig ks 1 % 4) 1 = sl ks 1 2 := by
    rw [show dig ks 1 / 4 * 4 + dig ks 1 % 4 = num (sl ks 1 (1 + 1)) by rw [num_one (by first | exact up _ (by decide) | lia)]; lia]
    exact be_sl ho (by first | exact up _ (by decide) | lia)
  have q3 : be (256 * dig ks 2 + dig ks 3) 2 = sl ks 2 4 := by
    rw [← num_two (a := 2) (by first | exact up _ (by decide) | lia)]
    exact be_sl ho (by first | exact up _ (by decide) | lia)
  have q4 : be (num (sl ks 4 6)) 2 = sl ks 4 6 := be_sl ho (by first | exact up _ (by decide) | lia)
  have q5 : be (num (sl ks 6 8) / 8192 * 8192 + num (sl ks 6 8) % 8192 * 8 / 8) 2 = sl ks 6 8 := by
    rw [show num (sl ks 6 8) / 8192 * 8192 + num (sl ks 6 8) % 8192 * 8 / 8 = num (sl ks 6 8) by lia]
    exact be_sl ho (by first | exact up _ (by decide) | lia)
  have q6 : be (dig ks 8) 1 = sl ks 8 9 := by
    rw [← num_one (ks := ks) (k := 8) (by first | exact up _ (by decide) | lia)]
    exact be_sl ho (by first | exact up _ (by decide) | lia)
  have q7 : be (dig ks 9) 1 = sl ks 9 10 := by
    rw [← num_one (ks := ks) (k := 9) (by first | exact up _ (by decide) | lia)]
    exact be_sl ho (by first | exact up _ (by decide) | lia)
  have hF : (readIp ks hn tn).first = sl ks 0 10 := by
    unfold Ip.first
    rw [hopt, hpad, htot]
    show be (69 + ((sl ks 20 hn).length : Int) / 4) 1 ++ be (dig ks 1 / 4 * 4 + dig ks 1 % 4) 1 ++ be (256 * dig ks 2 + dig ks 3) 2 ++ (be (num (sl ks 4 6)) 2 ++ be (num (sl ks 6 8) / 8192 * 8192 + num (sl ks 6 8) % 8192 * 8 / 8) 2) ++ (be (dig ks 8) 1 ++ be (dig ks 9) 1) = _
    rw [q1, q2, q3, q4, q5, q6, q7, sl_app (by decide) (by decide), sl_app (by decide) (by decide), sl_app (by decide) (by decide), sl_app (by decide) (by decide), sl_app (by decide) (by decide), sl_app (by decide) (by decide)]
  have hB : (readIp ks hn tn).behind = sl ks 12 hn := by
    unfold Ip.behind
    rw [hopt, hpad]
    show be (num (sl ks 12 16)) 4 ++ be (num (sl ks 16 20)) 4 ++ sl ks 20 hn = _
    rw [show be (num (sl ks 12 16)) 4 = sl ks 12 16 from be_sl ho (by first | exact up _ (by decide) | lia), show be (num (sl ks 16 20)) 4 = sl ks 16 20 from be_sl ho (by first | exact up _ (by decide) | lia), sl_app (by decide) (by decide), sl_app (by decide) (by first | exact up _ (by decide) | lia)]
  unfold Ip.written
  rw [hF, hB, hdat]
  -- the sum
  have hc := num_two (ks := ks) (a := 10) (by first | exact up _ (by decide) | lia)
  have d10 := dig_oct ho 10
  have d11 := dig_oct ho 11
  have hbe : be (num (sl ks 10 12)) 2 = sl ks 10 12 := be_sl ho (by first | exact up _ (by decide) | lia)
  have hall : num (ks.take hn) = num (sl ks 0 10) * 256 ^ (2 + (hn - 12)) + num (sl ks 10 12) * 256 ^ (hn - 12) + num (sl ks 12 hn) := by
    rw [← sl_zero, ← sl_app (a := 0) (b := 12) (c := hn) (by decide) (by first | exact up _ (by decide) | lia), ← sl_app (a := 0) (b := 10) (c := 12) (by decide) (by decide), num_append, num_append, sl_len (by first | exact up _ (by decide) | lia), sl_len (by first | exact up _ (by decide) | lia), Int.add_mul, Int.mul_assoc, ← Int.pow_add]
  have hV : num (sl ks 0 10 ++ sl ks 12 hn) = num (sl ks 0 10) * 256 ^ (hn - 12) + num (sl ks 12 hn) := by rw [num_append, sl_len (by first | exact up _ (by decide) | lia)]
  have hFp : 0 < num (sl ks 0 10) := by
    rw [sl_zero]
    exact num_pos ho (by first | exact up _ (by decide) | lia) (by first | exact up _ (by decide) | lia) (by decide)
  have hBn := (num_bound (sl_oct ho 12 hn)).1
  have hp := pow256_pos (hn - 12)
  have hVp : 0 < num (sl ks 0 10 ++ sl ks 12 hn) := by
    rw [hV]
    have := Int.mul_pos hFp hp
    lia
  obtain ⟨k, hk⟩ := pow_mod ((hn - 12) / 2)
  rw [show 2 * ((hn - 12) / 2) = hn - 12 by lia] at hk
  have hsum : num (ks.take hn) % 65535 = 0 := (fold_ff (num_pos ho (by first | exact up _ (by decide) | lia) (by first | exact up _ (by decide) | lia) (by first | exact up _ (by decide) | lia))).mp hs
  have hrel : num (ks.take hn) = num (sl ks 0 10 ++ sl ks 12 hn) + num (sl ks 10 12) + 65535 * (num (sl ks 0 10) * 256 ^ (hn - 12) + num (sl ks 10 12) * k) := by
    rw [hall, hV, Int.pow_add, show (256 : Int) ^ 2 = 65536 by decide, hk]
    rw [Int.mul_left_comm _ 65536, Int.mul_add (num (sl ks 10 12)), Int.mul_left_comm (num (sl ks 10 12)) 65535]
    generalize num (sl ks 0 10) * (1 + 65535 * k) = Z
    generalize num (sl ks 10 12) * k = Y
    lia
  rw [hrel] at hsum
  generalize num (sl ks 0 10) * 256 ^ (hn - 12) + num (sl ks 10 12) * k = Z at hsum
  generalize num (sl ks 0 10 ++ sl ks 12 hn) = V at *
  have hbc : 0 ≤ num (sl ks 10 12) ∧ num (sl ks 10 12) < 65536 := by
    have hc' : num (sl ks 10 12) = 256 * dig ks 10 + dig ks 11 := hc
    lia
  have hfold : fold V = (V - 1) % 65535 + 1 := by unfold fold; rw [if_neg (by first | exact up _ (by decide) | lia)]
  have t10 : dig (ks.take tn) 10 = dig ks 10 := by unfold dig; rw [List.getD_eq_getElem?_getD, List.getD_eq_getElem?_getD, List.getElem?_take_of_lt (by first | exact up _ (by decide) | lia)]
  have t11 : dig (ks.take tn) 11 = dig ks 11 := by unfold dig; rw [List.getD_eq_getElem?_getD, List.getD_eq_getElem?_getD, List.getElem?_take_of_lt (by first | exact up _ (by decide) | lia)]
  have hc' : num (sl ks 10 12) = 256 * dig ks 10 + dig ks 11 := hc
  unfold fixed
  rw [t10, t11]
  by_cases hff : dig ks 10 = 255 ∧ dig ks 11 = 255
  · rw [if_pos hff]
    have : 65535 - fold V = 0 := by rw [hfold]; lia
    rw [this]
    have e0 : be 0 2 = [0, 0] := rfl
    have et : (ks.take tn).take 10 = sl ks 0 10 := by rw [List.take_take, Nat.min_eq_left (by first | exact up _ (by decide) | lia)]; rfl
    rw [e0, et, List.append_assoc _ (sl ks 12 hn), sl_app (by first | exact up _ (by decide) | lia) (by first | exact up _ (by decide) | lia)]
    rfl
  · rw [if_neg hff]
    have : 65535 - fold V = num (sl ks 10 12) := by rw [hfold]; lia
    rw [this, hbe, sl_app (by first | exact up _ (by decide) | lia) (by first | exact up _ (by decide) | lia), sl_app (by first | exact up _ (by decide) | lia) (by first | exact up _ (by decide) | lia), sl_app (by first | exact up _ (by decide) | lia) (by first | exact up _ (by decide) | lia)]
    rfl
end Mine
end
section
open PySem PySem.W PySem.Spec PySem.Calls PyProof.Rows
set_option Elab.async false
namespace Mine
set_option tactic.hygienic false
set_option maxRecDepth 100000
noncomputable def sWritten : Spec := fun ts Q _ => nineLL ts fun x xs r => oneL r fun ys => ∃ o k : List Int, xs = o.map Tr.int ∧ ys = k.map Tr.int ∧ oct o ∧ oct k ∧ o.length ≤ 500 ∧ k.length ≤ 500 ∧ small x.h ∧ small x.f ∧ Q (wantT x o k)
section
variable {w : World} {h₀ : Heap} (B : Base prg w (kf w.params) h₀)
noncomputable abbrev S29 : Sig := sigOf exN [("Ip4", .new sIp), ("write_ipv4", .fn sWrite)]
noncomputable abbrev p29 : List Stmt := (fnAt 29).2.1.take 8
noncomputable abbrev l29 (x : Nine) (o d : List Int) (fs : List Tr) : Loc := [("fields", .val x.tr), ("options", .val (iL o)), ("data", .val (iL d)), ("ip", .mu (.ip fs))]
section
variable (x : Nine) (o d : List Int) (t0 t1 t2 t3 t4 t5 t6 t7 t8 t9 t10 : Tr)
theorem w29_0 (Q : Fl → Loc → Prop) (X : XE) : wpB S29 ((p29.drop 0).take 1) (l28 x o d) Q X = itT x.list 0 fun a => itT x.list 1 fun b => itT x.list 2 fun c => byW (d.map Tr.int) fun ns => Q .next (l29 x o d [a, b, c, .bytes ns, .int 64, .int 0, .int 0, .int 0, .int 0, .int 0, .bytes []]) := by kernel_rfl
theorem w29_1 (Q : Fl → Loc → Prop) (X : XE) : wpB S29 ((p29.drop 1).take 1) (l29 x o d [t0, t1, t2, t3, t4, t5, t6, t7, t8, t9, t10]) Q X = itT x.list 3 fun v => ipIx "ttl" ≤ 11 ∧ ipIx "ttl" < 11 ∧ Q .next (l29 x o d [t0, t1, t2, t3, v, t5, t6, t7, t8, t9, t10]) := by kernel_rfl
theorem w29_2 (Q : Fl → Loc → Prop) (X : XE) : wpB S29 ((p29.drop 2).take 1) (l29 x o d [t0, t1, t2, t3, t4, t5, t6, t7, t8, t9, t10]) Q X = itT x.list 4 fun v => ipIx "ident" ≤ 11 ∧ ipIx "ident" < 11 ∧ Q .next (l29 x o d [t0, t1, t2, t3, t4, v, t6, t7, t8, t9, t10]) := by kernel_rfl
theorem w29_3 (Q : Fl → Loc → Prop) (X : XE) : wpB S29 ((p29.drop 3).take 1) (l29 x o d [t0, t1, t2, t3, t4, t5, t6, t7, t8, t9, t10]) Q X = itT x.list 5 fun v => ipIx "flags" ≤ 11 ∧ ipIx "flags" < 11 ∧ Q .next (l29 x o d [t0, t1, t2, t3, t4, t5, v, t7, t8, t9, t10]) := by kernel_rfl
theorem w29_4 (Q : Fl → Loc → Prop) (X : XE) : wpB S29 ((p29.drop 4).take 1) (l29 x o d [t0, t1, t2, t3, t4, t5, t6, t7, t8, t9, t10]) Q X = itT x.list 6 fun v => ipIx "place" ≤ 11 ∧ ipIx "place" < 11 ∧ Q .next (l29 x o d [t0, t1, t2, t3, t4, t5, t6, v, t8, t9, t10]) := by kernel_rfl
theorem w29_5 (Q : Fl → Loc → Prop) (X : XE) : wpB S29 ((p29.drop 5).take 1) (l29 x o d [t0, t1, t2, t3, t4, t5, t6, t7, t8, t9, t10]) Q X = itT x.list 7 fun v => ipIx "dscp" ≤ 11 ∧ ipIx "dscp" < 11 ∧ Q .next (l29 x o d [t0, t1, t2, t3, t4, t5, t6, t7, v, t9, t10]) := by kernel_rfl
theorem w29_6 (Q : Fl → Loc → Prop) (X : XE) : wpB S29 ((p29.drop 6).take 1) (l29 x o d [t0, t1, t2, t3, t4, t5, t6, t7, t8, t9, t10]) Q X = itT x.list 8 fun v => ipIx "ecn" ≤ 11 ∧ ipIx "ecn" < 11 ∧ Q .next (l29 x o d [t0, t1, t2, t3, t4, t5, t6, t7, t8, v, t10]) := by kernel_rfl
theorem w29_7 (Q : Fl → Loc → Prop) (X : XE) : wpB S29 (p29.drop 7) (l29 x o d [t0, t1, t2, t3, t4, t5, t6, t7, t8, t9, t10]) Q X = byW (o.map Tr.int) fun ns => ipIx "options" ≤ 11 ∧ ipIx "options" < 11 ∧ Q .next (l29 x o d [t0, t1, t2, t3, t4, t5, t6, t7, t8, t9, .bytes ns]) := by kernel_rfl
theorem w29_8 (i : Ip) (Q : Tr → Prop) (X : Addr → PySem.Str → Prop) : wpE S29.fn (tryE (stAt 29 8)) [("fields", .val x.tr), ("options", .val (iL o)), ("data", .val (iL d)), ("ip", .mu i.tr)] (fun t _ => Q t) (fun C y _ => X C y) = sWrite [i.tr] (fun t => Q (.tup [.str "", t])) X := by kernel_rfl
end
/-- what the clauses of _law_written give -/
noncomputable def P29 (_ : List Tr) (_ : Loc) (Q : Tr → Prop) (C : Addr) (y : PySem.Str) : Prop := (C = 56 ∧ Q (.tup [.str "BadPacket", .str y])) ∨ (C = 44 ∧ Q (.tup [.str "Misused", .str y]))
include B in
theorem catch29 {x1 x4 x5 x7 x8 x9 x3 z1 z4 z5 z7 z8 z9 z3 : Pos} {x2 x6 z2 z6 : Nat} : Catches prg w (g0 w.params) h₀ "_law_written" sc29 231 (.ref 230) [.ExceptHandler (some (.Name "BadPacket" x1)) (some "fault") [.Return (some (.Tuple [.Constant (.str "BadPacket") x2 x3, .Attribute (.Name "fault" x4) "why" x5] x6 x7)) x8] x9,
     .ExceptHandler (some (.Name "Misused" z1)) (some "fault") [.Return (some (.Tuple [.Constant (.str "Misused") z2 z3, .Attribute (.Name "fault" z4) "why" z5] z6 z7)) z8] z9] P29 := by
  intro A G' l L m own fr aux led W ρ s h1 e C y ts Q QQ EE k I X hP hled q
  have hk : (envOf "_law_written" sc29 L 231 (.ref 230)).scope.kind = .function := by kernel_rfl
  have kn1 : (envOf "_law_written" sc29 L 231 (.ref 230)).kindOf "BadPacket" = some .globalImplicit := by kernel_rfl
  have kn2 : (envOf "_law_written" sc29 L 231 (.ref 230)).kindOf "Misused" = some .globalImplicit := by kernel_rfl
  have kn3 : (envOf "_law_written" sc29 L 231 (.ref 230)).kindOf "fault" = some .local := by kernel_rfl
  rcases hP with ⟨rfl, hq⟩ | ⟨rfl, hq⟩
  · exact handle_step B (x56 _) (x56 _) is56_56 X hk rfl rfl rfl (Heap.get?_none_of_le I.F.above) rfl hled (by kernel_rfl) kn1 (by decide +kernel) kn3 (fun _ h2 m2 tk E2 X2 n2 hm _ =>
      catch_pair (s := { s with heap := h2, toks := tk }) (k56 _) B X2 hk rfl n2 kn3 hm (Heap.get?_none_of_le I.F.above) hled fun v h5 tk5 nw Bk D => q v h5 tk5 nw _ Bk D hq) fun q => (nomatch q)
  · exact handle_step B (x44 _) (x56 _) is44_56 X hk rfl rfl rfl (Heap.get?_none_of_le I.F.above) rfl hled (by kernel_rfl) kn1 (by decide +kernel) kn3 (fun q => (nomatch q)) fun _ =>
      handle_step B (x44 _) (x44 _) is44_44 X hk rfl rfl rfl (Heap.get?_none_of_le I.F.above) rfl hled (by kernel_rfl) kn2 (by decide +kernel) kn3 (fun _ h2 m2 tk E2 X2 n2 hm _ =>
        catch_pair (s := { s with heap := h2, toks := tk }) (k44 _) B X2 hk rfl n2 kn3 hm (Heap.get?_none_of_le I.F.above) hled fun v h5 tk5 nw Bk D => q v h5 tk5 nw _ Bk D hq) fun q => (nomatch q)
include B in
theorem c_written : Contract1 prg w (g0 w.params) h₀ 6 (.ref 231) sWritten := by
  obtain ⟨rp, x1, x2, x3, x4, x5, x6, x7, x8, x9, z1, z2, z3, z4, z5, z6, z7, z8, z9, tp, eb⟩ := form29
  have ok : defOk (kf w.params) 230 "_law_written" ["fields", "options", "data"] (fnAt 29).2.2 = true := by kernel_rfl
  intro A G' l L m own fr aux W ρ s ts vs Q X QQ EE
  refine contract1_try (sp := sWritten) (n := 5) (Γ := S29) (pre := p29) (cdv := .ref 230) (e0 := tryE (stAt 29 8)) (P := P29) (body := (fnAt 29).2.1) (names := ["fields", "options", "data"]) (scope := sc29) (qual := "_law_written") B
    (c_def (name := "_law_written") (dV := .none) (pym := .str "law_pf0339_01" 418) (x := fnAt 29) (names := ["fields", "options", "data"]) (by kernel_rfl) ok fun vs h => by
      obtain ⟨a, b, c, rfl⟩ := len3 h
      kernel_rfl) (fun hr S k => mkFG (lib B) exN_ok (.new (by kernel_rfl) (by decide) (c_ip B) (.fn (by kernel_rfl) (by decide) (c_write B) .nil)) (kind_of ok) hr S k) eb (by kernel_rfl) (by kernel_rfl) (fun ts Q X h => ?_) (catch29 B)
  replace h := nineLL_of h
  obtain ⟨x, xs, r, rfl, h⟩ := h
  replace h := oneL_of h
  obtain ⟨ys, rfl, h⟩ := h
  · obtain ⟨o, k, rfl, rfl, ho, hk, hol, hkl, s1, s2, hq⟩ := h
    refine ⟨_, if_pos rfl, ?_⟩
    have h9 : x.list.length ≤ 1000 := show 9 ≤ 1000 by decide
    have c1 : ∀ a : PySem.Str, ipIx a < 11 → ipIx a ≤ 11 ∧ ipIx a < 11 := fun a h => ⟨Nat.le_of_lt h, h⟩
    refine (show wpB S29 (p29.drop 0) (l28 x o k) _ _ from cut1 0 (use (w29_0 x o k _ _) (itT_of 0 h9 (show 0 < 9 by decide) (itT_of 1 h9 (show 1 < 9 by decide) (itT_of 2 h9 (show 2 < 9 by decide) (byW_of hk (by lia) ?_))))))
    refine cut1 1 (use (w29_1 x o k _ _ _ _ _ _ _ _ _ _ _ _ _) (itT_of 3 h9 (show 3 < 9 by decide) ⟨by decide +kernel, by decide +kernel, ?_⟩))
    refine cut1 2 (use (w29_2 x o k _ _ _ _ _ _ _ _ _ _ _ _ _) (itT_of 4 h9 (show 4 < 9 by decide) ⟨by decide +kernel, by decide +kernel, ?_⟩))
    refine cut1 3 (use (w29_3 x o k _ _ _ _ _ _ _ _ _ _ _ _ _) (itT_of 5 h9 (show 5 < 9 by decide) ⟨by decide +kernel, by decide +kernel, ?_⟩))
    refine cut1 4 (use (w29_4 x o k _ _ _ _ _ _ _ _ _ _ _ _ _) (itT_of 6 h9 (show 6 < 9 by decide) ⟨by decide +kernel, by decide +kernel, ?_⟩))
    refine cut1 5 (use (w29_5 x o k _ _ _ _ _ _ _ _ _ _ _ _ _) (itT_of 7 h9 (show 7 < 9 by decide) ⟨by decide +kernel, by decide +kernel, ?_⟩))
    refine cut1 6 (use (w29_6 x o k _ _ _ _ _ _ _ _ _ _ _ _ _) (itT_of 8 h9 (show 8 < 9 by decide) ⟨by decide +kernel, by decide +kernel, ?_⟩))
    refine use (w29_7 x o k _ _ _ _ _ _ _ _ _ _ _ _ _) (byW_of ho (by lia) ⟨by decide +kernel, by decide +kernel, rfl, ?_⟩)
    refine use (w29_8 x o k (x.ip o k) Q (P29 _ _ Q)) ?_
    unfold wantT at hq
    have h40 : ∀ {p : Prop}, (40 < o.length → p) → (o.length ≤ 40 → p) → p := fun h1 h2 => by
      by_cases q : 40 < o.length
      · exact h1 q
      · exact h2 (by lia)
    refine ⟨⟨by show o.length ≤ 1000; lia, by show k.length ≤ 1000; lia⟩, hk, ho, s1, s2, fun q => .inl ⟨rfl, ?_⟩, fun q hodd => .inr ⟨rfl, ?_⟩, fun q hodd hf => .inr ⟨rfl, ?_⟩, fun q hodd hf => ?_⟩
    · rw [if_pos (show 40 < o.length from q)] at hq; exact hq
    all_goals have q' : ¬ 40 < o.length := by (have : o.length ≤ 40 := q); lia
    · rw [if_neg q', if_pos ((odd_iff x o k).mp hodd)] at hq; exact hq
    · have hodd' : ¬ x.odd := fun q => hodd ((odd_iff x o k).mpr q)
      rw [if_neg q', if_neg hodd', if_pos (fun q => hf ((fits_iff o k hodd').mpr q))] at hq; exact hq
    · have hodd' : ¬ x.odd := fun q => hodd ((odd_iff x o k).mpr q)
      have hf' := (fits_iff o k hodd').mp hf
      rw [if_neg q', if_neg hodd', if_neg (fun q => q hf'), ← written_eq ho q (by lia) hodd' hf'] at hq; exact hq
end
end Mine
end
section
open PySem PySem.W PySem.Spec PySem.Calls PyProof.Rows
set_option Elab.async false
namespace Mine
set_option tactic.hygienic false
set_option maxRecDepth 100000
set_option linter.unusedVariables false
set_option linter.unusedSectionVars false
section
variable {prog : Program} {w : World} {K : Frag} {h₀ : Heap} {G : Wo} {f : Addr} {qual : PySem.Str} {body post : List Stmt} {scope : Scope} {cdv : Value} {names : List PySem.Str} {fill : List Tr → Option (List Tr)} {n : Nat} {Γ : Sig} {e0 : Expr} {ats : List Expr} {ap tp : Pos} {h0 : ExceptHandler} {hs : List ExceptHandler}

/-- try: x = e, and more behind -/
theorem contract1_try2 (B : Base prog w K h₀) (D : Def K f qual body scope cdv names fill) (R : Reader prog w K G h₀ n qual scope f cdv Γ) (hbody : body = .Try [.Assign ats e0 ap] (h0 :: hs) [] [] tp :: post) (okp : okB scope [] post = true) (oke : okE scope e0 = true) (okt : okTg scope [] ats e0 = true) {sp : Spec} {P : List Tr → Loc → (Tr → Prop) → Addr → PySem.Str → Prop}
    (hsp : ∀ ts Q X, sp ts Q X → ∃ full, fill ts = some full ∧ assignW Γ ats e0 (names.zip (full.map Slot.val)) (fun ρ1 => wpB Γ post ρ1 (endQ Q) (fun _ _ _ => False)) (fun C y _ => P ts (names.zip (full.map Slot.val)) Q C y))
    (catch_ : Catches prog w G h₀ qual scope f cdv (h0 :: hs) P) : Contract1 prog w G h₀ (n + 1) (.ref f) sp := by
  intro A G' l L m own fr aux W ρ s ts vs Q X QQ EE k hr S hl1 I d h q
  obtain ⟨full, hfill, hw⟩ := hsp ts Q X h
  obtain ⟨name, params, dV, kV, doc, pm, ct, oc, an, od, osl, ho, hb, _⟩ := D.there
  obtain ⟨vs', d', hl, hbind⟩ := hb G' _ ts vs full hfill d
  obtain ⟨oL, hoL, hnf⟩ := ns_obj I
  have hlen : vs'.length = names.length := by rw [d'.length, hl]
  refine call_fn B I.F.keep ho D.code (by have := hr.depth; omega) (hbind s (B.X.keeps I.F.keep)) (fun x hx => D.loc _ (List.of_mem_zip hx).1) D.cell (fun h1 n1 k1 => ?_) D.co D.gen D.kind
  have lk : ∀ x v, (x, v) ∈ names.zip vs' → (fun x => (names.zip vs').reverse.lookup x) x = some v := fun x v hm =>
    lookup_mem (by rw [List.map_reverse, zip_keys hlen.symm]; exact (List.reverse_perm _).nodup_iff.mpr D.nd) (List.mem_reverse.mpr hm)
  have J := enter_inv (own1 := []) I hoL hnf n1 k1 (fun p hp => nomatch hp) List.nodup_nil own (fun p hp => hp) (fun p hp => nomatch hp) (slots_nodup hl.symm D.nd) (loc_args (d'.like (like_below G' L fr)) hl.symm lk)
  have hS := stack_deeper (L' := s.heap.objs.size) (f := f) (cd := cdv) (q := qual) (fr := fr) S D.kind
  have H := R (hr.deeper _) hS (k.trans (like_below G' L fr))
  subst hbody
  refine wpAny_execs_cons (wpAny_Try_except (wpAny_execs_cons (assign_sound H (kp := []) (s := { s with heap := h1, toks := s.toks + (names.zip vs').length }) oke okt hw J (fun h3 tk3 m3 own3 fr3 ρ3 km J3 f3 q3 => ?_) fun e h3 tk3 own3 fr3 ρ3 C y he hX => ?_)))
  · refine wpAny_execs_nil (wpAny_execs_nil ?_)
    refine soundB H post (kp := []) (s := { s with heap := h3, toks := tk3 }) okp q3 J3 PassesOwn.leaving (fun fl fv h' tk' m' own' fr' ρ' km' J' f' r hq => ?_) fun m' e h' tk' own' fr' ρ' C y he hX => hX.elim
    cases r with
    | next => exact q .none h' tk' fr' .none (leave_inv I hoL J' J'.hold).1 J'.hold rfl hq
    | cont => exact hq.elim
    | ret dv => exact q _ h' tk' fr' _ (leave_inv I hoL J' J'.hold).1 J'.hold (dv.like (like_below G' L fr).symm) hq
    | retm hl hm =>
      obtain ⟨own2, fr2, v, J2, hfr, hv, dv, _⟩ := J'.freeze hl
      rw [hm] at hv
      cases hv
      exact q _ h' tk' fr2 _ (leave_inv I hoL J2 J2.hold).1 J2.hold (dv.like (like_below G' L fr).symm) hq
  · refine flies_note (s := { s with heap := h3, toks := tk3 }) hS.is rfl he.1 fun h4 X4 _ => ?_
    have X5 := X4.sub (led' := own ++ fr ++ ((L, oL) :: aux)) (fun p hp => by
      have hold := he.2
      simp only [List.mem_append, List.mem_cons] at hp ⊢
      rcases hp with (hp | hp) | hp | hp
      · exact .inr (.inl hp)
      · exact .inl (.inr (hold p hp))
      · exact .inr (.inr (.inl hp))
      · exact .inr (.inr (.inr hp)))
    refine catch_ (s := { s with heap := h4, toks := tk3 }) (k.trans (like_below G' L fr)) J X5 hX (fun p hp => ?_) fun v h5 tk5 nw t X6 d5 q5 => ?_
    · simp only [List.mem_append, List.mem_cons] at hp
      rcases hp with (hp | hp) | rfl | hp
      · exact Nat.ne_of_lt (I.look_lt p (by simp [hp]))
      · exact Nat.ne_of_lt (I.look_lt p (by simp [hp]))
      · exact Nat.ne_of_lt (Heap.lt_size hoL)
      · exact Nat.ne_of_lt (I.look_lt p (by simp [hp]))
    · have I5 := back_inv I hoL hl1 (env := envOf qual scope s.heap.objs.size f cdv) rfl (Nat.le_refl _) (fun p hp => by
        simp only [List.mem_append, List.mem_cons]
        rcases hp with hp | hp | hp | hp
        · exact .inl (.inl hp)
        · exact .inl (.inr hp)
        · exact .inr (.inr hp)
        · exact .inr (.inl hp)) X6
      exact q v h5 tk5 (nw ++ fr) t I5 (fun p hp => List.mem_append_right _ hp) ((d5.like (like_below G' L fr).symm).mono (PF.mono fun p hp => List.mem_append_left _ hp)) q5
end
section
variable {w : World} {h₀ : Heap}
/-- return (fault.why, [], b"") -/
theorem catch_why {A : Around} {l : List Env} {L : Addr} {m2 : PySem.Str → Option Value} {led : Led} {s : Shared} {e C : Addr} {y : PySem.Str} {env : Env} {E2 : Value → Shared → Prop} {QQ : Flow → Shared → Prop} {k1 k2 : Nat} {p1 p2 p3 p4 p5 : Pos} {G' : Wo} (k : ExcK (kf w.params) C) (B : Base prg w (kf w.params) h₀) (X : Landed h₀ (env :: l) led s.heap e C y) (hk : env.scope.kind = .function) (hloc : env.locals = L) (hn : s.heap.Ns L m2) (hkn : env.kindOf "fault" = some .local) (hm : m2 "fault" = some (.ref e)) (hL0 : h₀.get? L = none) (hled : ∀ p ∈ led, p.1 ≠ L)
    (q : ∀ v h5 tk5 nw, Back h₀ (env :: l) led nw h5 → Den G' (PF h₀ nw) (.tup [.str y, .list [], .bytes []]) v → QQ (.ret v) { s with heap := h5, toks := tk5 }) :
    wpAny (model prg w) A (eval (.Tuple [.Attribute (.Name "fault" p2) "why" p3, .List [] p5, .Constant (.bytes []) k1 p1] k2 p4) env) (fun v s4 => ∀ h5 tk5, Heap.SameBut L s4.heap h5 → QQ (.ret v) { s4 with heap := h5, toks := tk5 } ∧ ∃ m4, s4.heap.Ns L m4) E2 s := by
  refine Tuple_ (Calls.spliced_cons (fault_why B k X hk hloc hn hkn (by decide) hm fun t tk => Calls.spliced_cons (List_ (Calls.spliced_nil ?_))))
  unfold newList
  refine wpAny_newObj_type (Calls.spliced_cons (Constant_bytes (k := k1) (pos := p1) (Calls.spliced_nil ?_))) (by show 0 ≤ sizeLine; exact Nat.zero_le _)
  unfold newTuple
  refine wpAny_newObj_type (fun h5 tk5 hs => ?_) (by show 3 ≤ sizeLine; rw [sizeLine_eq]; decide)
  have up : ∀ b o, s.heap.get? b = some o → ((s.heap.push { cls := .type "list", dict := none, data := .seq (#[] : Array Value) }).push { cls := .type "tuple", dict := none, data := .seq [Value.str y t, .ref s.heap.objs.size, .bytes (#[] : Array UInt8) tk].toArray }).get? b = some o := fun b o h => Heap.get?_push_of_some _ (Heap.get?_push_of_some _ h)
  have z : (s.heap.push { cls := .type "list", dict := none, data := .seq (#[] : Array Value) }).objs.size = s.heap.objs.size + 1 := by simp [Heap.push]
  refine ⟨q _ h5 tk5 [(s.heap.objs.size + 1, { cls := .type "tuple", dict := none, data := .seq [Value.str y t, .ref s.heap.objs.size, .bytes (#[] : Array UInt8) tk].toArray }), (s.heap.objs.size, { cls := .type "list", dict := none, data := .seq (#[] : Array Value) })] (X.push up (fun p hp => ?_) hL0 (ns_some hn) hled hs)
    ⟨_, _, [.str y t, .ref s.heap.objs.size, .bytes (#[] : Array UInt8) tk], congrArg Value.ref z, .inr (.head _), rfl, ⟨0, rfl⟩, ⟨_, _, rfl, ⟨_, rfl⟩, ⟨_, _, rfl, ⟨_, _, [], rfl, .inr (.tail _ (.head _)), rfl, ⟨0, rfl⟩, rfl⟩, ⟨_, _, rfl, ⟨_, _, rfl, rfl⟩, rfl⟩⟩⟩⟩, m2, hn.keeps up⟩
  rcases List.mem_cons.mp hp with rfl | hp
  · refine ⟨?_, Heap.get?_none_of_le (Nat.le_succ _)⟩
    have : ((s.heap.push { cls := .type "list", dict := none, data := .seq (#[] : Array Value) }).push { cls := .type "tuple", dict := none, data := .seq [Value.str y t, .ref s.heap.objs.size, .bytes (#[] : Array UInt8) tk].toArray }).get? (s.heap.push { cls := .type "list", dict := none, data := .seq (#[] : Array Value) }).objs.size = _ := Heap.get?_push_size _ rfl
    rw [z] at this
    exact this
  · rw [List.mem_singleton.mp hp]
    exact ⟨Heap.get?_push_of_some _ (Heap.get?_push_size _ rfl), Heap.get?_none_of_le (Nat.le_refl _)⟩
end
end Mine
end
section
open PySem PySem.W PySem.Spec PySem.Calls PyProof.Rows
set_option Elab.async false
namespace Mine
set_option tactic.hygienic false
set_option maxRecDepth 100000
noncomputable def sFields : Spec := fun ts Q _ => oneL ts fun xs => ∃ ks : List Int, xs = ks.map Tr.int ∧ oct ks ∧ ks.length ≤ 1000 ∧ (∀ e, headR ks = .error e → Q (.tup [.str e, .list [], .bytes []])) ∧ (∀ h t, headR ks = .ok (h, t) → Q (.tup [.str "", saidT (readIp ks h t), .bytes (fixed (ks.take t.toNat))]))
section
variable {w : World} {h₀ : Heap} (B : Base prg w (kf w.params) h₀)
noncomputable abbrev S31 : Sig := sigOf exN [("read_ipv4", .new sRead), ("write_ipv4", .fn sWrite)]
noncomputable abbrev post31 : List Stmt := (fnAt 31).2.1.drop 1
noncomputable def tryT : Stmt → List Expr
  | .Try (.Assign ts _ _ :: _) _ _ _ _ => ts
  | _ => []
noncomputable abbrev sc31 : Scope := (fnAt 31).2.2
theorem form31 : ∃ ap k1 k2 p1 p2 p3 p4 p5 x1 x8 x9 tp, (fnAt 31).2.1 = .Try [.Assign (tryT (stAt 31 0)) (tryE (stAt 31 0)) ap]
    [.ExceptHandler (some (.Name "BadPacket" x1)) (some "fault") [.Return (some (.Tuple [.Attribute (.Name "fault" p2) "why" p3, .List [] p5, .Constant (.bytes []) k1 p1] k2 p4)) x8] x9] [] [] tp :: post31 :=
  ⟨_, _, _, _, _, _, _, _, _, _, _, _, rfl⟩
theorem w31_0 (ks : List Int) (Q : Loc → Prop) (X : Addr → PySem.Str → Prop) : assignW S31 (tryT (stAt 31 0)) (tryE (stAt 31 0)) (l32 ks) Q (fun C y _ => X C y) = byW (ks.map Tr.int) fun ns => sRead [.bytes ns] (fun t => Q [("octets", .val (iL ks)), ("ip", .mu t)]) X := by kernel_rfl
noncomputable abbrev l31 (ks : List Int) (i : Ip) : Loc := [("octets", .val (iL ks)), ("ip", .mu i.tr)]
theorem w31_1 (ks : List Int) (i : Ip) (Q : Fl → Loc → Prop) (X : XE) : wpB S31 ((post31.drop 0).take 1) (l31 ks i) Q X = atW "source" (ipF i) fun a => atW "target" (ipF i) fun b => atW "protocol" (ipF i) fun c => atW "ttl" (ipF i) fun d => atW "ident" (ipF i) fun e => atW "flags" (ipF i) fun f => atW "place" (ipF i) fun g => atW "dscp" (ipF i) fun h => atW "ecn" (ipF i) fun j =>
  Q .next [("octets", .val (iL ks)), ("ip", .val i.tr), ("numbers", .mu (.list [a, b, c, d, e, f, g, h, j]))] := by kernel_rfl
theorem w31_2 (ks : List Int) (i : Ip) (ns : List Tr) (Q : Fl → Loc → Prop) (X : XE) : wpB S31 (post31.drop 1) [("octets", .val (iL ks)), ("ip", .val i.tr), ("numbers", .mu (.list ns))] Q X = atW "options" (ipF i) fun o => atW "data" (ipF i) fun d => sWrite [i.tr] (fun t => Q (.ret (.tup [.str "", .list [.list ns, o, d], t])) [("octets", .val (iL ks)), ("ip", .val i.tr), ("numbers", .val (.list ns))]) (fun C y => X C y [("octets", .val (iL ks)), ("ip", .val i.tr), ("numbers", .val (.list ns))]) := by kernel_rfl
noncomputable def P31 (_ : List Tr) (_ : Loc) (Q : Tr → Prop) (C : Addr) (y : PySem.Str) : Prop := C = 56 ∧ Q (.tup [.str y, .list [], .bytes []])
include B in
theorem catch31 {x1 x8 x9 p1 p2 p3 p4 p5 : Pos} {k1 k2 : Nat} : Catches prg w (g0 w.params) h₀ "_law_fields" sc31 245 (.ref 244) [.ExceptHandler (some (.Name "BadPacket" x1)) (some "fault") [.Return (some (.Tuple [.Attribute (.Name "fault" p2) "why" p3, .List [] p5, .Constant (.bytes []) k1 p1] k2 p4)) x8] x9] P31 := by
  intro A G' l L m own fr aux led W ρ s h1 e C y ts Q QQ EE k I X hP hled q
  have hk : (envOf "_law_fields" sc31 L 245 (.ref 244)).scope.kind = .function := by kernel_rfl
  have kn1 : (envOf "_law_fields" sc31 L 245 (.ref 244)).kindOf "BadPacket" = some .globalImplicit := by kernel_rfl
  have kn3 : (envOf "_law_fields" sc31 L 245 (.ref 244)).kindOf "fault" = some .local := by kernel_rfl
  obtain ⟨rfl, hq⟩ := hP
  exact handle_step B (x56 _) (x56 _) is56_56 X hk rfl rfl rfl (Heap.get?_none_of_le I.F.above) rfl hled (by kernel_rfl) kn1 (by decide +kernel) kn3 (fun _ h2 m2 tk E2 X2 n2 hm _ =>
      catch_why (s := { s with heap := h2, toks := tk }) (k56 _) B X2 hk rfl n2 kn3 hm (Heap.get?_none_of_le I.F.above) hled fun v h5 tk5 nw Bk D => q v h5 tk5 nw _ Bk D hq) fun q => (nomatch q)
include B in
theorem c_fields : Contract1 prg w (g0 w.params) h₀ 6 (.ref 245) sFields := by
  obtain ⟨ap, k1, k2, p1, p2, p3, p4, p5, x1, x8, x9, tp, eb⟩ := form31
  have ok : defOk (kf w.params) 244 "_law_fields" ["octets"] (fnAt 31).2.2 = true := by kernel_rfl
  intro A G' l L m own fr aux W ρ s ts vs Q X QQ EE
  refine contract1_try2 (sp := sFields) (n := 5) (Γ := S31) (post := post31) (cdv := .ref 244) (e0 := tryE (stAt 31 0)) (ats := tryT (stAt 31 0)) (P := P31) (body := (fnAt 31).2.1) (names := ["octets"]) (scope := sc31) (qual := "_law_fields") B
    (c_def (name := "_law_fields") (dV := .none) (pym := .str "law_pf0339_01" 418) (x := fnAt 31) (names := ["octets"]) (by kernel_rfl) ok fun vs h => by
      obtain ⟨a, rfl⟩ := len1 h
      kernel_rfl) (fun hr S k => mkFG (lib B) exN_ok (.new (by kernel_rfl) (by decide) (c_read B) (.fn (by kernel_rfl) (by decide) (c_write B) .nil)) (kind_of ok) hr S k) eb (by kernel_rfl) (by kernel_rfl) (by kernel_rfl) (fun ts Q X h => ?_) (catch31 B)
  replace h := oneL_of h
  obtain ⟨xs, rfl, h⟩ := h
  · obtain ⟨ks, rfl, ho, hl, hX, hQ⟩ := h
    refine ⟨_, if_pos rfl, ?_⟩
    refine use (w31_0 ks _ (P31 _ _ Q)) (byW_of ho (by lia) ⟨ho, hl, fun e he => ⟨rfl, hX e he⟩, fun h t he => ?_⟩)
    have hq := hQ h t he
    obtain ⟨r1, r2, r3, r4, r5, r6, r7, r8⟩ := read_ok ho hl he
    rw [← rewritten ho hl he] at hq
    unfold saidT numbersT at hq
    generalize readIp ks h t = i at *
    refine (show wpB S31 (post31.drop 0) (l31 ks i) _ _ from cut1 0 (use (w31_1 ks i _ _) ⟨_, rfl, _, rfl, _, rfl, _, rfl, _, rfl, _, rfl, _, rfl, _, rfl, _, rfl, ?_⟩))
    exact use (w31_2 ks i _ _ _) ⟨_, rfl, _, rfl, r1, r2, r3, r7, r8, fun q => absurd r4 (Nat.not_le.mpr q), fun _ q => absurd q r5, fun _ _ q => absurd r6 q, fun _ _ _ => hq⟩
end
end Mine
end
section
open PySem PySem.W PySem.Spec PySem.Calls PyProof.Rows
set_option Elab.async false
namespace Mine
set_option tactic.hygienic false
set_option maxRecDepth 100000
set_option linter.unusedVariables false
set_option linter.unusedSectionVars false
section
variable {w : World} {h₀ : Heap}
/-- return due is None and fault.why == word -/
theorem catch_due {A : Around} {l : List Env} {L : Addr} {m2 : PySem.Str → Option Value} {led : Led} {s : Shared} {e C : Addr} {y : PySem.Str} {env : Env} {E2 : Value → Shared → Prop} {QQ : Flow → Shared → Prop} {k1 k2 : Nat} {p1 p2 p3 p4 p5 p6 p7 p8 : Pos} {G' : Wo} (k : ExcK (kf w.params) C) (B : Base prg w (kf w.params) h₀) (X : Landed h₀ (env :: l) led s.heap e C y) (hk : env.scope.kind = .function) (hloc : env.locals = L) (hn : s.heap.Ns L m2) (hkn : env.kindOf "fault" = some .local) (hm : m2 "fault" = some (.ref e)) (hkd : env.kindOf "due" = some .local) (hmd : m2 "due" = some .none) (hL0 : h₀.get? L = none) (hled : ∀ p ∈ led, p.1 ≠ L)
    (q : ∀ v h5 tk5 nw, Back h₀ (env :: l) led nw h5 → Den G' (PF h₀ nw) (.bool true) v → QQ (.ret v) { s with heap := h5, toks := tk5 }) :
    wpAny (model prg w) A (eval (.BoolOp .And [.Compare (.Name "due" p1) [.Is] [.Constant .none k1 p2] p3, .Compare (.Attribute (.Name "fault" p4) "why" p5) [.Eq] [.Constant (.str y) k2 p6] p7] p8) env) (fun v s4 => ∀ h5 tk5, Heap.SameBut L s4.heap h5 → QQ (.ret v) { s4 with heap := h5, toks := tk5 } ∧ ∃ m4, s4.heap.Ns L m4) E2 s := by
  refine BoolOp_and (wpAny_Compare1 (wpAny_Name (wpAny_loadName_local hk hkd (by rw [hloc]; exact hn) hmd (Constant_none (is_none_none (wpAny_truthy_bool ?_)))) (by decide)) rfl)
  rw [if_pos rfl]
  refine BoolOp_one (wpAny_Compare1 (fault_why B k X hk hloc hn hkn (by decide) hm fun t tk => wpAny_Constant_str (PyProof.Rows.eq_str ?_)) rfl)
  intro h5 tk5 hs
  have e1 : (y == y) = true := beq_self_eq_true _
  refine ⟨?_, m2, hn⟩
  rw [e1]
  exact q (.bool true) h5 tk5 [] (X.push (nw := []) (h2 := s.heap) (fun b o h => h) (fun p hp => nomatch hp) hL0 (ns_some hn) hled hs) rfl
end
end Mine
end
section
open PySem PySem.W PySem.Spec PySem.Calls PyProof.Rows
set_option Elab.async false
namespace Mine
set_option tactic.hygienic false
set_option maxRecDepth 100000
noncomputable def sOHold : Spec := fun ts Q _ => oneL ts fun xs => ∃ ns : List Int, xs = ns.map Tr.int ∧ ns.length ≤ 1000 ∧ Q (.bool true)
theorem okL_refl {f : Tr → Tr → Prop} : ∀ {xs : List Tr}, (∀ x ∈ xs, f x x) → okL f xs xs
  | [], _ => trivial
  | x :: xs, h => ⟨h x (.head _), okL_refl fun y hy => h y (.tail _ hy)⟩
theorem eqL_refl {f : Tr → Tr → Bool} : ∀ {xs : List Tr}, (∀ x ∈ xs, f x x = true) → eqL f xs xs = true
  | [], _ => rfl
  | x :: xs, h => by
    show (f x x && eqL f xs xs) = true
    rw [h x (.head _), eqL_refl fun y hy => h y (.tail _ hy)]
    rfl
theorem pairs_ok (l : List (Int × List Int)) : okT 3 (.list (l.map pairT)) (.list (l.map pairT)) := fun _ => okL_refl fun x hx => by
  obtain ⟨p, _, rfl⟩ := List.mem_map.mp hx
  exact ⟨trivial, trivial, trivial⟩
theorem pairs_eq (l : List (Int × List Int)) : eqT 3 (.list (l.map pairT)) (.list (l.map pairT)) = true := eqL_refl fun x hx => by
  obtain ⟨p, _, rfl⟩ := List.mem_map.mp hx
  show ((p.1 == p.1) && ((p.2 == p.2) && true)) = true
  simp
section
variable {w : World} {h₀ : Heap} (B : Base prg w (kf w.params) h₀)
noncomputable abbrev S38 : Sig := sigOf exN [("_law_drawn_options", .new sDrawn), ("_law_options_octets", .new sOOctets), ("write_options", .fn sWOpts), ("_law_digit", .fn sDigit), ("_law_due_options", .fn (sDue 41)), ("options_of", .fn sOptions)]
noncomputable abbrev p38 : List Stmt := (fnAt 38).2.1.take 7
noncomputable abbrev sc38 : Scope := (fnAt 38).2.2
theorem form38 : ∃ rp x1 x8 x9 k1 k2 p1 p2 p3 p4 p5 p6 p7 p8 tp, (fnAt 38).2.1 = p38 ++ [.Try [.Return (some (tryE (stAt 38 7))) rp]
    [.ExceptHandler (some (.Name "BadPacket" x1)) (some "fault") [.Return (some (.BoolOp .And [.Compare (.Name "due" p1) [.Is] [.Constant .none k1 p2] p3, .Compare (.Attribute (.Name "fault" p4) "why" p5) [.Eq] [.Constant (.str "bad option") k2 p6] p7] p8)) x8] x9] [] [] tp] :=
  ⟨_, _, _, _, _, _, _, _, _, _, _, _, _, _, _, rfl⟩
noncomputable abbrev l38 (ns : List Int) (O : Tr) (sl : Slot) (z : Loc) : Loc := ("script", .val (iL ns)) :: ("options", .val O) :: ("octets", sl) :: z
theorem w38_0 (ns : List Int) (Q : Fl → Loc → Prop) (X : XE) : wpB S38 ((p38.drop 0).take 1) [("script", .val (iL ns))] Q X = ∃ ns1 : List Int, ns.map Tr.int = ns1.map Tr.int ∧ ns1.length ≤ 1000 ∧ ∀ l, optsOk l → l.length = 3 → Q .next [("script", .val (iL ns)), ("options", .mu (.list (l.map pairT)))] := by kernel_rfl
theorem w38_1 (ns : List Int) (l : List (Int × List Int)) (Q : Fl → Loc → Prop) (X : XE) : wpB S38 ((p38.drop 1).take 1) [("script", .val (iL ns)), ("options", .mu (.list (l.map pairT)))] Q X = ∃ l' : List (Int × List Int), l.map pairT = l'.map pairT ∧ optsOk l' ∧ l'.length ≤ 10 ∧ Q .next (l38 ns (.list (l.map pairT)) (.mu (iL (optL l'))) []) := by kernel_rfl
theorem w38_2 (ns : List Int) (l : List (Int × List Int)) (ks : List Int) (Q : Fl → Loc → Prop) (X : XE) : wpB S38 ((p38.drop 2).take 1) (l38 ns (.list (l.map pairT)) (.mu (iL ks)) []) Q X = ∃ l' : List (Int × List Int), l.map pairT = l'.map pairT ∧ optsOk l' ∧ l'.length ≤ 10 ∧ byW (ks.map Tr.int) fun ns' => ifW (!(optL l' == ns')) (Q (.ret (.bool false)) (l38 ns (.list (l.map pairT)) (.mu (iL ks)) [])) (Q .next (l38 ns (.list (l.map pairT)) (.mu (iL ks)) [])) := by kernel_rfl
theorem w38_3 (ns : List Int) (O : Tr) (xs : List Tr) (Q : Fl → Loc → Prop) (X : XE) : wpB S38 ((p38.drop 3).take 1) (l38 ns O (.mu (.list xs)) []) Q X = digW ns 29 fun d => Q .next (l38 ns O (.mu (.list xs)) [("digit", .val (.int d))]) := by kernel_rfl
theorem w38_4 (ns : List Int) (O : Tr) (xs : List Tr) (d : Int) (Q : Fl → Loc → Prop) (X : XE) : wpB S38 ((p38.drop 4).take 1) (l38 ns O (.mu (.list xs)) [("digit", .val (.int d))]) Q X = digW ns 30 fun m => 0 < (13 : Int) ∧ -(big : Int) ≤ m % 13 ∧ m % 13 ≤ big ∧ ForK S38 (forTg (stAt 38 4)) (forBody (stAt 38 4)) ((rangeL 0 (m % 13) 1).map Tr.int) (l38 ns O (.mu (.list xs)) [("digit", .val (.int d))]) (idQ Q) := by kernel_rfl
theorem w38t (ns : List Int) (O : Tr) (xs : List Tr) (d k : Int) (N : Loc → Prop) (R : Tr → Loc → Prop) (M : PySem.Str → Tr → Loc → Prop) : TB S38 (forTg (stAt 38 4)) (forBody (stAt 38 4)) (l38 ns O (.mu (.list xs)) [("digit", .val (.int d)), ("k", .val (.int k))]) N R M =
  (("append" : PySem.Str) = "append" ∧ 0 < (7 : Int) ∧ some (Slot.mu (Tr.list xs)) = some (Slot.mu (Tr.list xs)) ∧ xs.length < big ∧ 0 < (7 : Int) ∧ (7 : Int).natAbs.log2 < 9000 ∧ N (l38 ns O (.mu (.list (xs ++ [.int ((d + k) % 7)]))) [("digit", .val (.int (d / 7)))])) := by kernel_rfl
theorem w38_5 (ns : List Int) (O : Tr) (ks : List Int) (d : Int) (Q : Fl → Loc → Prop) (X : XE) : wpB S38 ((p38.drop 5).take 1) (l38 ns O (.mu (iL ks)) [("digit", .val (.int d))]) Q X = digW ns 31 fun a => 0 < (4 : Int) ∧ ifW (a % 4 == 3) (digW ns 31 fun b => 0 < (4 : Int) ∧ (4 : Int).natAbs.log2 < 9000 ∧ 0 < (3 : Int) ∧ 0 ≤ b / 4 % 3 ∧ True ∧ (ks.map Tr.int).length ≤ big ∧ Q .next (l38 ns O (.val (.list (((ks.map Tr.int).take (ks.map Tr.int).length).drop (b / 4 % 3).toNat))) [("digit", .val (.int d))])) (Q .next (l38 ns O (.mu (iL ks)) [("digit", .val (.int d))])) := by kernel_rfl
theorem w38_6m (ns : List Int) (O : Tr) (ks : List Int) (d : Int) (Q : Fl → Loc → Prop) (X : XE) : wpB S38 (p38.drop 6) (l38 ns O (.mu (iL ks)) [("digit", .val (.int d))]) Q X = sDue1 40 [iL ks] (fun t => Q .next (l38 ns O (.val (iL ks)) [("digit", .val (.int d)), ("due", .val t)])) (fun c y => X c y (l38 ns O (.val (iL ks)) [("digit", .val (.int d))])) := by kernel_rfl
theorem w38_6v (ns : List Int) (O : Tr) (ks : List Int) (d : Int) (Q : Fl → Loc → Prop) (X : XE) : wpB S38 (p38.drop 6) (l38 ns O (.val (iL ks)) [("digit", .val (.int d))]) Q X = sDue1 40 [iL ks] (fun t => Q .next (l38 ns O (.val (iL ks)) [("digit", .val (.int d)), ("due", .val t)])) (fun c y => X c y (l38 ns O (.val (iL ks)) [("digit", .val (.int d))])) := by kernel_rfl
theorem w38_7 (ns : List Int) (O : Tr) (ks : List Int) (d T : Tr) (Q : Tr → Prop) (X : Addr → PySem.Str → Prop) : wpE S38.fn (tryE (stAt 38 7)) (l38 ns O (.val (iL ks)) [("digit", .val d), ("due", .val T)]) (fun t _ => Q t) (fun C y _ => X C y) = byW (ks.map Tr.int) fun ns => sOptions [.bytes ns] (fun t => cmpW .Eq t T fun c => Q (.bool c)) X := by kernel_rfl
noncomputable def P38 (_ : List Tr) (ρ : Loc) (Q : Tr → Prop) (C : Addr) (y : PySem.Str) : Prop := C = 56 ∧ y = "bad option" ∧ look "due" ρ = some (.val .none) ∧ Q (.bool true)
include B in
theorem catch38 {x1 x8 x9 p1 p2 p3 p4 p5 p6 p7 p8 : Pos} {k1 k2 : Nat} : Catches prg w (g0 w.params) h₀ "_law_options_hold" sc38 294 (.ref 293) [.ExceptHandler (some (.Name "BadPacket" x1)) (some "fault") [.Return (some (.BoolOp .And [.Compare (.Name "due" p1) [.Is] [.Constant .none k1 p2] p3, .Compare (.Attribute (.Name "fault" p4) "why" p5) [.Eq] [.Constant (.str "bad option") k2 p6] p7] p8)) x8] x9] P38 := by
  intro A G' l L m own fr aux led W ρ s h1 e C y ts Q QQ EE k I X hP hled q
  have hk : (envOf "_law_options_hold" sc38 L 294 (.ref 293)).scope.kind = .function := by kernel_rfl
  have kn1 : (envOf "_law_options_hold" sc38 L 294 (.ref 293)).kindOf "BadPacket" = some .globalImplicit := by kernel_rfl
  have kn2 : (envOf "_law_options_hold" sc38 L 294 (.ref 293)).kindOf "due" = some .local := by kernel_rfl
  have kn3 : (envOf "_law_options_hold" sc38 L 294 (.ref 293)).kindOf "fault" = some .local := by kernel_rfl
  obtain ⟨rfl, rfl, hd, hq⟩ := hP
  have hmd : m "due" = some .none := by
    obtain ⟨o1, c, o2, e1, e2, e3, e4⟩ := I.S.loc.at "due" I.S.nd
    obtain ⟨v, hv, hs⟩ := e3 _ hd
    cases hs with
    | val dv => obtain rfl : v = _ := dv; exact hv
  exact handle_step B (x56 _) (x56 _) is56_56 X hk rfl rfl rfl (Heap.get?_none_of_le I.F.above) rfl hled (by kernel_rfl) kn1 (by decide +kernel) kn3 (fun _ h2 m2 tk E2 X2 n2 hm hz =>
      catch_due (s := { s with heap := h2, toks := tk }) (k56 _) B X2 hk rfl n2 kn3 hm kn2 ((hz "due" (by decide)).trans hmd) (Heap.get?_none_of_le I.F.above) hled fun v h5 tk5 nw Bk D => q v h5 tk5 nw _ Bk D hq) fun q => (nomatch q)
include B in
theorem c_ohold : Contract1 prg w (g0 w.params) h₀ 43 (.ref 294) sOHold := by
  obtain ⟨rp, x1, x8, x9, k1, k2, p1, p2, p3, p4, p5, p6, p7, p8, tp, eb⟩ := form38
  have ok : defOk (kf w.params) 293 "_law_options_hold" ["script"] (fnAt 38).2.2 = true := by kernel_rfl
  intro A G' l L m own fr aux W ρ s ts vs Q X QQ EE
  refine contract1_try (sp := sOHold) (n := 42) (Γ := S38) (pre := p38) (cdv := .ref 293) (e0 := tryE (stAt 38 7)) (P := P38) (body := (fnAt 38).2.1) (names := ["script"]) (scope := sc38) (qual := "_law_options_hold") B
    (c_def (name := "_law_options_hold") (dV := .none) (pym := .str "law_pf0339_01" 418) (x := fnAt 38) (names := ["script"]) (by kernel_rfl) ok fun vs h => by
      obtain ⟨a, rfl⟩ := len1 h
      kernel_rfl) (fun hr S k => mkFG (lib B) exN_ok (.new (by kernel_rfl) (by decide) (c_drawn B) (.new (by kernel_rfl) (by decide) (c_ooctets B) (.fn (by kernel_rfl) (by decide) (c_wopts B) (.fn (by kernel_rfl) (by decide) (c_digit B) (.fn (by kernel_rfl) (by decide) (c_due B 41) (.fn (by kernel_rfl) (by decide) (c_options B) .nil)))))) (kind_of ok) hr S k) eb (by kernel_rfl) (by kernel_rfl) (fun ts Q X h => ?_) (catch38 B)
  replace h := oneL_of h
  obtain ⟨xs, rfl, h⟩ := h
  · obtain ⟨ns, rfl, hn, hq⟩ := h
    refine ⟨_, if_pos rfl, ?_⟩
    refine (show wpB S38 (p38.drop 0) [("script", .val (iL ns))] _ _ from cut1 0 (use (w38_0 ns _ _) ⟨ns, rfl, hn, fun l hl hl3 => ?_⟩))
    refine cut1 1 (use (w38_1 ns l _ _) ⟨l, rfl, hl, by lia, ?_⟩)
    have hk0 := optL_oct hl
    have hkl := optL_len hl
    refine cut1 2 (use (w38_2 ns l _ _ _) ⟨l, rfl, hl, by lia, byW_of hk0 (by lia) (ifW_of (fun e => ?_) fun _ => ?_)⟩)
    · rw [beq_self_eq_true] at e; cases e
    generalize optL l = k0 at *
    generalize Tr.list (l.map pairT) = O
    refine cut1 3 (use (w38_3 ns O _ _ _) (digW_of hn (by decide) ?_))
    generalize dig ns (29 : Int).toNat = d0
    have fin : ∀ (ks : List Int) (T : Tr), oct ks → ks.length ≤ 40 → T = dueT ks → ∀ d, wpE S38.fn (tryE (stAt 38 7)) (l38 ns O (.val (iL ks)) [("digit", .val d), ("due", .val T)]) (fun t _ => Q t) (fun C y _ => P38 ts (l38 ns O (.val (iL ks)) [("digit", .val d), ("due", .val T)]) Q C y) := fun ks T ho hl hT d => by
      refine use (w38_7 ns O ks d T Q (P38 ts (l38 ns O (.val (iL ks)) [("digit", .val d), ("due", .val T)]) Q)) (byW_of ho (by lia) ⟨ho, by lia, fun q => ⟨rfl, rfl, ?_, hq⟩, fun l q => ?_⟩)
      · unfold dueT at hT
        rw [q] at hT
        rw [hT]
        rfl
      · unfold dueT at hT
        rw [q] at hT
        rw [hT]
        refine ⟨pairs_ok l, ?_⟩
        show Q (.bool (eqT 3 (.list (l.map pairT)) (.list (l.map pairT))))
        rw [pairs_eq]
        exact hq
    have big_ : (big : Int) = 16777216 := rfl
    refine cut1 4 (use (w38_4 ns O _ d0 _ _) (digW_of hn (by decide) ⟨by decide, by lia, by lia, forK_of (σ := List Int × Int) (fun i s => oct s.1 ∧ s.1.length = k0.length + i) (fun s => l38 ns O (.mu (iL s.1)) [("digit", .val (.int s.2))]) (k0, d0) rfl ⟨hk0, rfl⟩ (fun i x s hx hs => ?_) fun s hs => ?_⟩))
    · obtain ⟨ks, d⟩ := s
      obtain ⟨h1, h2⟩ := hs
      dsimp only at h1 h2
      rw [List.getElem?_map] at hx
      obtain ⟨j, hj, rfl⟩ := Option.map_eq_some_iff.mp hx
      have hi : i < 13 := by
        have := (List.getElem?_eq_some_iff.mp hj).1
        unfold rangeL at this
        rw [List.length_map, List.length_range] at this
        lia
      refine turn_of (l38 ns O (.mu (iL ks)) [("digit", .val (.int d)), ("k", .val (.int j))]) (by kernel_rfl) (w38t ns O _ d j _ _ _) ⟨rfl, by decide, rfl, by first | exact le_bigm (by assumption) | (rw [List.length_map, big_eq]; lia), by decide, by decide +kernel, (ks ++ [(d + j) % 7], d / 7), ?_, oct_append.mpr ⟨h1, fun x hx => by rw [List.mem_singleton.mp hx]; lia⟩, by rw [List.length_append]; show ks.length + 1 = _; lia⟩
      show l38 _ _ _ _ = l38 _ _ (.mu (.list ((ks ++ [(d + j) % 7]).map Tr.int))) _
      rw [List.map_append]
      rfl
    · obtain ⟨ks, d⟩ := s
      obtain ⟨h1, h2⟩ := hs
      dsimp only at h1 h2
      have hks : ks.length ≤ 40 := by
        rw [List.length_map] at h2
        unfold rangeL at h2
        rw [List.length_map, List.length_range] at h2
        lia
      show wpB S38 (p38.drop 5) (l38 ns O (.mu (iL ks)) [("digit", .val (.int d))]) _ _
      refine cut1 5 (use (w38_5 ns O ks d _ _) (digW_of hn (by decide) ⟨by decide, fun _ => digW_of hn (by decide) ⟨by decide, by decide +kernel, by decide, by lia, trivial, by first | exact le_bigm (by assumption) | (rw [List.length_map, big_eq]; lia), ?_⟩, fun _ => ?_⟩))
      · rw [List.take_length, ← List.map_drop]
        have a1 := oct_drop h1 (dig ns (31 : Int).toNat / 4 % 3).toNat
        have a2 : (ks.drop (dig ns (31 : Int).toNat / 4 % 3).toNat).length ≤ 40 := by rw [List.length_drop]; lia
        generalize ks.drop (dig ns (31 : Int).toNat / 4 % 3).toNat = k2 at *
        exact use (w38_6v ns O k2 d _ _) ⟨k2, rfl, a1, a2, by lia, rfl, fin k2 _ a1 a2 rfl _⟩
      · exact use (w38_6m ns O ks d _ _) ⟨ks, rfl, h1, hks, by lia, rfl, fin ks _ h1 hks rfl _⟩
end
end Mine
end
section
open PySem PySem.W PySem.Spec PySem.Calls PyProof.Rows
set_option Elab.async false
namespace Mine
set_option tactic.hygienic false
set_option maxRecDepth 100000
theorem Contract.weaken {prog : Program} {w : World} {G : Wo} {h₀ : Heap} {n : Nat} {v : Value} {sp sp' : Spec} (c : Contract prog w G h₀ n v sp) (h : ∀ ts Q X, sp' ts Q X → sp ts Q X) : Contract prog w G h₀ n v sp' := by
  intro A G' l L m own fr aux W ρ s ts vs Q X QQ EE k hr S I d hh q x
  exact c k hr S I d (h _ _ _ hh) q x
noncomputable def sDF2 : Spec := fun ts Q _ => oneL ts fun xs => ∃ ks : List Int, xs = ks.map Tr.int ∧ oct ks ∧ ks.length ≤ 1000 ∧ (∀ e, headR ks = .error e → Q (.tup [.str e, .list []])) ∧ (∀ h t, headR ks = .ok (h, t) → Q (.tup [.str "", saidT (readIp ks h t)]))
/-- _law_field(script, p, u, tp) -/
noncomputable def fldW (ns : List Int) (p u tp : Int) (K : Int → Prop) : Prop := ∃ ns1 : List Int, ns.map Tr.int = ns1.map Tr.int ∧ ns1.length ≤ 1000 ∧ 0 ≤ p ∧ 0 < tp ∧ K (fld ns1 p.toNat u tp)
theorem fldW_of {ns : List Int} {p u tp : Int} {K : Int → Prop} (hl : ns.length ≤ 1000) (hp : 0 ≤ p) (ht : 0 < tp) (h : K (fld ns p.toNat u tp)) : fldW ns p u tp K := ⟨ns, rfl, hl, hp, ht, h⟩
noncomputable def p32W (K : Int → Prop) : Prop := 0 ≤ (32 : Int) ∧ (Builtin.Int.intBits 2 : Int) * 32 ≤ 2 ^ 27 ∧ K (2 ^ (32 : Int).toNat)
theorem p32W_of {K : Int → Prop} (h : K (2 ^ 32)) : p32W K := ⟨by decide, by decide +kernel, h⟩
theorem headR_err {ks : List Int} {e : PySem.Str} (h : headR ks = .error e) : (e == "") = false := by
  unfold headR at h
  split at h
  · cases h; decide +kernel
  · split at h
    · cases h; decide +kernel
    · split at h
      · cases h; decide +kernel
      · split at h
        · cases h; decide +kernel
        · split at h
          · cases h; decide +kernel
          · cases h
theorem ne_str {a : PySem.Str} {K : Bool → Prop} (h : K false) : cmpW .NotEq (.str a) (.str a) K := by
  show K (!(a == a))
  rw [beq_self_eq_true]; exact h
theorem ne_bytes {a : List Int} {K : Bool → Prop} (h : K false) : cmpW .NotEq (.bytes a) (.bytes a) K := by
  show K (!(a == a))
  rw [beq_self_eq_true]; exact h
theorem ne_list {a : List Tr} {K : Bool → Prop} (h1 : okT 3 (.list a) (.list a)) (h2 : eqT 3 (.list a) (.list a) = true) (h : K false) : cmpW .NotEq (.list a) (.list a) K := by
  refine ⟨h1, ?_⟩
  show K (!(eqT 3 (.list a) (.list a)))
  rw [h2]; exact h
theorem ne_tup {a : List Tr} {K : Bool → Prop} (h1 : okT 3 (.tup a) (.tup a)) (h2 : eqT 3 (.tup a) (.tup a) = true) (h : K false) : cmpW .NotEq (.tup a) (.tup a) K := by
  refine ⟨h1, ?_⟩
  show K (!(eqT 3 (.tup a) (.tup a)))
  rw [h2]; exact h
theorem ne_look {ks : List Int} {K : Bool → Prop} (h : K false) : cmpW .NotEq (lookT ks) (lookT ks) K := by
  unfold lookT
  split
  · exact h
  · split
    · exact h
    · exact ne_tup ⟨trivial, trivial, trivial, trivial, trivial⟩ (eqL_refl fun x hx => by
        simp only [List.mem_cons, List.not_mem_nil, _root_.or_false] at hx
        rcases hx with rfl | rfl | rfl | rfl
        · exact beq_self_eq_true _
        · exact beq_self_eq_true _
        · exact beq_self_eq_true _
        · exact beq_self_eq_true _) h
theorem ne_said {i : Ip} {K : Bool → Prop} (h : K false) : cmpW .NotEq (saidT i) (saidT i) K :=
  ne_list (fun _ => ⟨fun _ => ⟨trivial, trivial, trivial, trivial, trivial, trivial, trivial, trivial, trivial, trivial⟩, trivial, trivial, trivial⟩) (eqL_refl fun x hx => by
    simp only [List.mem_cons, List.not_mem_nil, _root_.or_false] at hx
    rcases hx with rfl | rfl | rfl
    · refine eqL_refl fun y hy => ?_
      simp only [List.mem_cons, List.not_mem_nil, _root_.or_false] at hy
      rcases hy with rfl | rfl | rfl | rfl | rfl | rfl | rfl | rfl | rfl <;> exact beq_self_eq_true _
    · exact beq_self_eq_true _
    · exact beq_self_eq_true _) h
/-- a slice to what a sum gives -/
noncomputable def toW (ks : List Int) (c : Tr) (K : List Tr → Prop) : Prop := match c with
  | .int i => True ∧ 0 ≤ i ∧ (ks.map Tr.int).length ≤ big ∧ K ((ks.map Tr.int).take i.toNat)
  | _ => False
section
variable {w : World} {h₀ : Heap} (B : Base prg w (kf w.params) h₀)
noncomputable abbrev cals39 : Cals := [("_law_field", .fn sField), ("_law_digit", .fn sDigit), ("_law_some", .new sSome), ("_law_due_written", .fn sDueW), ("_law_head", .fn sHead2), ("write_ipv4", .fn sWrite), ("Ip4", .new sIp), ("_law_any", .fn sAny), ("_law_due_fields", .fn sDF2), ("look4", .fn sLook), ("_law_due_look", .fn sDueLook)]
noncomputable abbrev SL : Sig := sigOf exN (("_law_options_hold", .fn sOHold) :: ("_law_fields", .fn sFields) :: ("_law_written", .fn sWritten) :: cals39)
noncomputable abbrev b39 : List Stmt := (fnAt 39).2.1
noncomputable abbrev bb39 : List Stmt := forBody (stAt 39 12)
noncomputable abbrev i39 : List Stmt := forBody (bb39.getD 3 (.Pass ⟨0, 0, 0, 0⟩))
noncomputable abbrev l39 (ns : List Int) (A C D E F H : Slot) (z : Loc) : Loc := ("script", .val (iL ns)) :: ("fields", A) :: ("options", C) :: ("data", D) :: ("due", E) :: ("usual", F) :: ("written", H) :: z
section
variable (ns : List Int) (A C D E F H : Slot) (ks : List Int)
theorem x39a0 (Q : Fl → Loc → Prop) (X : XE) : wpB SL ((bb39.drop 0).take 1) (l39 ns A C D E F H [("octets", (.val (iL ks)))]) Q X = ∃ ks1 : List Int, ks.map Tr.int = ks1.map Tr.int ∧ oct ks1 ∧ ks1.length ≤ 1000 ∧ (∀ e, headR ks1 = .error e → ∃ ρ2, some (l39 ns A C D E F H [("octets", (.val (iL ks))), ("why", (.val (.str e))), ("said", (.val (.list [])))]) = some ρ2 ∧ Q .next ρ2) ∧ (∀ h t, headR ks1 = .ok (h, t) → ∃ ρ2, some (l39 ns A C D E F H [("octets", (.val (iL ks))), ("why", (.val (.str ""))), ("said", (.val (saidT (readIp ks1 h t))))]) = some ρ2 ∧ Q .next ρ2) := by kernel_rfl
theorem x39a1 (wy sd : Tr) (Q : Fl → Loc → Prop) (X : XE) : wpB SL ((bb39.drop 1).take 1) (l39 ns A C D E F H [("octets", (.val (iL ks))), ("why", (.val wy)), ("said", (.val sd))]) Q X = ∃ ks1 : List Int, ks.map Tr.int = ks1.map Tr.int ∧ oct ks1 ∧ ks1.length ≤ 1000 ∧ (∀ e, headR ks1 = .error e → Q .next (l39 ns A C D E F H [("octets", (.val (iL ks))), ("why", (.val wy)), ("said", (.val sd)), ("told", (.val (.tup [.str e, .list [], .bytes []])))])) ∧ (∀ h t, headR ks1 = .ok (h, t) → Q .next (l39 ns A C D E F H [("octets", (.val (iL ks))), ("why", (.val wy)), ("said", (.val sd)), ("told", (.val (.tup [.str "", saidT (readIp ks1 h t), .bytes (fixed (ks1.take t.toNat))])))])) := by kernel_rfl
theorem x39a2 (wy sd u0 u1 u2 : Tr) (Q : Fl → Loc → Prop) (X : XE) : wpB SL ((bb39.drop 2).take 1) (l39 ns A C D E F H [("octets", (.val (iL ks))), ("why", (.val wy)), ("said", (.val sd)), ("told", (.val (.tup [u0, u1, u2])))]) Q X = (0 ≤ (0 : Int) ∧ (0 : Int) < big ∧ ∃ t, some u0 = some t ∧ cmpW .NotEq t wy fun c => orW c (0 ≤ (1 : Int) ∧ (1 : Int) < big ∧ ∃ t, some u1 = some t ∧ cmpW .NotEq t sd fun c => orW c
  (byW (ks.map Tr.int) fun ns' => oct ns' ∧ ns'.length ≤ 1000 ∧ ∃ ks2 : List Int, ks.map Tr.int = ks2.map Tr.int ∧ oct ks2 ∧ ks2.length ≤ 1000 ∧ cmpW .NotEq (lookT ns') (lookT ks2) fun c => orW c (ifW false (Q (.ret (.bool false)) (l39 ns A C D E F H [("octets", (.val (iL ks))), ("why", (.val wy)), ("said", (.val sd)), ("told", (.val (.tup [u0, u1, u2])))])) (Q .next (l39 ns A C D E F H [("octets", (.val (iL ks))), ("why", (.val wy)), ("said", (.val sd)), ("told", (.val (.tup [u0, u1, u2])))]))) (fun c => ifW c (Q (.ret (.bool false)) (l39 ns A C D E F H [("octets", (.val (iL ks))), ("why", (.val wy)), ("said", (.val sd)), ("told", (.val (.tup [u0, u1, u2])))])) (Q .next (l39 ns A C D E F H [("octets", (.val (iL ks))), ("why", (.val wy)), ("said", (.val sd)), ("told", (.val (.tup [u0, u1, u2])))])))) (fun c => ifW c (Q (.ret (.bool false)) (l39 ns A C D E F H [("octets", (.val (iL ks))), ("why", (.val wy)), ("said", (.val sd)), ("told", (.val (.tup [u0, u1, u2])))])) (Q .next (l39 ns A C D E F H [("octets", (.val (iL ks))), ("why", (.val wy)), ("said", (.val sd)), ("told", (.val (.tup [u0, u1, u2])))])))) (fun c => ifW c (Q (.ret (.bool false)) (l39 ns A C D E F H [("octets", (.val (iL ks))), ("why", (.val wy)), ("said", (.val sd)), ("told", (.val (.tup [u0, u1, u2])))])) (Q .next (l39 ns A C D E F H [("octets", (.val (iL ks))), ("why", (.val wy)), ("said", (.val sd)), ("told", (.val (.tup [u0, u1, u2])))])))) := by kernel_rfl
theorem x39a3 (wy sd u0 u1 u2 : Tr) (Q : Fl → Loc → Prop) (X : XE) : wpB SL ((bb39.drop 3).take 1) (l39 ns A C D E F H [("octets", (.val (iL ks))), ("why", (.val wy)), ("said", (.val sd)), ("told", (.val (.tup [u0, u1, u2])))]) Q X = cmpW .Eq wy (.str "") fun c => ifW c (wpB SL i39 (l39 ns A C D E F H [("octets", (.val (iL ks))), ("why", (.val wy)), ("said", (.val sd)), ("told", (.val (.tup [u0, u1, u2])))]) (idQ Q) X) (Q .next (l39 ns A C D E F H [("octets", (.val (iL ks))), ("why", (.val wy)), ("said", (.val sd)), ("told", (.val (.tup [u0, u1, u2])))])) := by kernel_rfl
theorem x39a30 (wy sd u0 u1 u2 : Tr) (Q : Fl → Loc → Prop) (X : XE) : wpB SL ((i39.drop 0).take 1) (l39 ns A C D E F H [("octets", (.val (iL ks))), ("why", (.val wy)), ("said", (.val sd)), ("told", (.val (.tup [u0, u1, u2])))]) Q X = itT ks 2 fun a => binW .Mult (.int 256) a fun a => itT ks 3 fun b => binW .Add a b fun c => toW ks c fun ys => Q .next (l39 ns A C D E F H [("octets", (.val (iL ks))), ("why", (.val wy)), ("said", (.val sd)), ("told", (.val (.tup [u0, u1, u2]))), ("right", (.val (.list ys)))]) := by kernel_rfl
theorem x39a31 (wy sd u0 u1 u2 : Tr) (r : List Int) (Q : Fl → Loc → Prop) (X : XE) : wpB SL ((i39.drop 1).take 1) (l39 ns A C D E F H [("octets", (.val (iL ks))), ("why", (.val wy)), ("said", (.val sd)), ("told", (.val (.tup [u0, u1, u2]))), ("right", (.val (iL r)))]) Q X = itT r 10 fun t => cmpW .Eq t (.int 255) fun c => andW c (itT r 11 fun t => cmpW .Eq t (.int 255) fun c => andW c (ifW true (True ∧ 0 ≤ (10 : Int) ∧ (r.map Tr.int).length ≤ big ∧ Operator.Add = Operator.Add ∧ ((r.map Tr.int).take 10).length + 2 ≤ big ∧ 0 ≤ (12 : Int) ∧ True ∧ (r.map Tr.int).length ≤ big ∧ ((r.map Tr.int).take 10 ++ [Tr.int 0, Tr.int 0]).length + (((r.map Tr.int).take (r.map Tr.int).length).drop 12).length ≤ big ∧ Q .next (l39 ns A C D E F H [("octets", (.val (iL ks))), ("why", (.val wy)), ("said", (.val sd)), ("told", (.val (.tup [u0, u1, u2]))), ("right", (.mu (.list ((r.map Tr.int).take 10 ++ [Tr.int 0, Tr.int 0] ++ ((r.map Tr.int).take (r.map Tr.int).length).drop 12))))])) (Q .next (l39 ns A C D E F H [("octets", (.val (iL ks))), ("why", (.val wy)), ("said", (.val sd)), ("told", (.val (.tup [u0, u1, u2]))), ("right", (.val (iL r)))]))) (fun c => ifW c (True ∧ 0 ≤ (10 : Int) ∧ (r.map Tr.int).length ≤ big ∧ Operator.Add = Operator.Add ∧ ((r.map Tr.int).take 10).length + 2 ≤ big ∧ 0 ≤ (12 : Int) ∧ True ∧ (r.map Tr.int).length ≤ big ∧ ((r.map Tr.int).take 10 ++ [Tr.int 0, Tr.int 0]).length + (((r.map Tr.int).take (r.map Tr.int).length).drop 12).length ≤ big ∧ Q .next (l39 ns A C D E F H [("octets", (.val (iL ks))), ("why", (.val wy)), ("said", (.val sd)), ("told", (.val (.tup [u0, u1, u2]))), ("right", (.mu (.list ((r.map Tr.int).take 10 ++ [Tr.int 0, Tr.int 0] ++ ((r.map Tr.int).take (r.map Tr.int).length).drop 12))))])) (Q .next (l39 ns A C D E F H [("octets", (.val (iL ks))), ("why", (.val wy)), ("said", (.val sd)), ("told", (.val (.tup [u0, u1, u2]))), ("right", (.val (iL r)))])))) (fun c => ifW c (True ∧ 0 ≤ (10 : Int) ∧ (r.map Tr.int).length ≤ big ∧ Operator.Add = Operator.Add ∧ ((r.map Tr.int).take 10).length + 2 ≤ big ∧ 0 ≤ (12 : Int) ∧ True ∧ (r.map Tr.int).length ≤ big ∧ ((r.map Tr.int).take 10 ++ [Tr.int 0, Tr.int 0]).length + (((r.map Tr.int).take (r.map Tr.int).length).drop 12).length ≤ big ∧ Q .next (l39 ns A C D E F H [("octets", (.val (iL ks))), ("why", (.val wy)), ("said", (.val sd)), ("told", (.val (.tup [u0, u1, u2]))), ("right", (.mu (.list ((r.map Tr.int).take 10 ++ [Tr.int 0, Tr.int 0] ++ ((r.map Tr.int).take (r.map Tr.int).length).drop 12))))])) (Q .next (l39 ns A C D E F H [("octets", (.val (iL ks))), ("why", (.val wy)), ("said", (.val sd)), ("told", (.val (.tup [u0, u1, u2]))), ("right", (.val (iL r)))]))) := by kernel_rfl
theorem x39a32m (wy sd u0 u1 u2 : Tr) (r : List Int) (Q : Fl → Loc → Prop) (X : XE) : wpB SL (i39.drop 2) (l39 ns A C D E F H [("octets", (.val (iL ks))), ("why", (.val wy)), ("said", (.val sd)), ("told", (.val (.tup [u0, u1, u2]))), ("right", (.mu (iL r)))]) (idQ Q) X = (0 ≤ (2 : Int) ∧ (2 : Int) < big ∧ ∃ t, some u2 = some t ∧ byW (r.map Tr.int) fun ns' => cmpW .NotEq t (.bytes ns') fun c => ifW c (Q (.ret (.bool false)) (l39 ns A C D E F H [("octets", (.val (iL ks))), ("why", (.val wy)), ("said", (.val sd)), ("told", (.val (.tup [u0, u1, u2]))), ("right", (.mu (iL r)))])) (Q .next (l39 ns A C D E F H [("octets", (.val (iL ks))), ("why", (.val wy)), ("said", (.val sd)), ("told", (.val (.tup [u0, u1, u2]))), ("right", (.mu (iL r)))]))) := by kernel_rfl
theorem x39a32v (wy sd u0 u1 u2 : Tr) (r : List Int) (Q : Fl → Loc → Prop) (X : XE) : wpB SL (i39.drop 2) (l39 ns A C D E F H [("octets", (.val (iL ks))), ("why", (.val wy)), ("said", (.val sd)), ("told", (.val (.tup [u0, u1, u2]))), ("right", (.val (iL r)))]) (idQ Q) X = (0 ≤ (2 : Int) ∧ (2 : Int) < big ∧ ∃ t, some u2 = some t ∧ byW (r.map Tr.int) fun ns' => cmpW .NotEq t (.bytes ns') fun c => ifW c (Q (.ret (.bool false)) (l39 ns A C D E F H [("octets", (.val (iL ks))), ("why", (.val wy)), ("said", (.val sd)), ("told", (.val (.tup [u0, u1, u2]))), ("right", (.val (iL r)))])) (Q .next (l39 ns A C D E F H [("octets", (.val (iL ks))), ("why", (.val wy)), ("said", (.val sd)), ("told", (.val (.tup [u0, u1, u2]))), ("right", (.val (iL r)))]))) := by kernel_rfl
theorem x39ae (wy sd : Tr) (td : Slot) (N : Loc → Prop) (R : Tr → Loc → Prop) (M : PySem.Str → Tr → Loc → Prop) (X : XE) : seqQ SL (bb39.drop 4) (TQ (forTg (stAt 39 12)) N R M) X .next (l39 ns A C D E F H [("octets", (.val (iL ks))), ("why", (.val wy)), ("said", (.val sd)), ("told", td)]) = N (l39 ns A C D E F H [("why", .val wy), ("said", .val sd), ("told", td)]) := by kernel_rfl
theorem x39af (wy sd : Tr) (td rt : Slot) (N : Loc → Prop) (R : Tr → Loc → Prop) (M : PySem.Str → Tr → Loc → Prop) (X : XE) : seqQ SL (bb39.drop 4) (TQ (forTg (stAt 39 12)) N R M) X .next (l39 ns A C D E F H [("octets", (.val (iL ks))), ("why", (.val wy)), ("said", (.val sd)), ("told", td), ("right", rt)]) = N (l39 ns A C D E F H [("why", .val wy), ("said", .val sd), ("told", td), ("right", rt)]) := by kernel_rfl
theorem turn39a (ho : oct ks) (hl : ks.length ≤ 1000) {N : Loc → Prop} {R : Tr → Loc → Prop} {M : PySem.Str → Tr → Loc → Prop} (h3 : ∀ wy sd td, N (l39 ns A C D E F H [("why", .val wy), ("said", .val sd), ("told", td)])) (h4 : ∀ wy sd td rt, N (l39 ns A C D E F H [("why", .val wy), ("said", .val sd), ("told", td), ("right", rt)])) :
    wpB SL (bb39.drop 0) (l39 ns A C D E F H [("octets", (.val (iL ks)))]) (TQ (forTg (stAt 39 12)) N R M) (fun _ _ _ => False) := by
  refine cut1 0 (use (x39a0 ns A C D E F H ks _ _) ⟨ks, rfl, ho, hl, fun e he => ⟨_, rfl, ?_⟩, fun h t he => ⟨_, rfl, ?_⟩⟩)
  · refine cut1 1 (use (x39a1 ns A C D E F H ks _ _ _ _) ⟨ks, rfl, ho, hl, fun e' he' => ?_, fun h t he' => ?_⟩)
    · rw [he] at he'
      cases he'
      refine cut1 2 (use (x39a2 ns A C D E F H ks _ _ _ _ _ _ _) ⟨by decide, by decide +kernel, _, rfl, ne_str (or_cut (fun q => (nomatch q)) fun _ => ⟨by decide, by decide +kernel, _, rfl, ne_list (fun _ => trivial) rfl (or_cut (fun q => (nomatch q)) fun _ => byW_of ho (by lia) ⟨ho, hl, ks, rfl, ho, hl, ne_look (or_last (fun q => (nomatch q)) fun _ => ?_)⟩)⟩)⟩)
      refine cut1 3 (use (x39a3 ns A C D E F H ks _ _ _ _ _ _ _) ⟨fun q => ?_, fun _ => ?_⟩)
      · rw [headR_err he] at q; cases q
      · exact use (x39ae ns A C D E F H ks _ _ _ _ _ _ _) (h3 _ _ _)
    · rw [he] at he'; cases he'
  · refine cut1 1 (use (x39a1 ns A C D E F H ks _ _ _ _) ⟨ks, rfl, ho, hl, fun e' he' => ?_, fun h' t' he' => ?_⟩)
    · rw [he] at he'; cases he'
    · rw [he] at he'
      cases he'
      obtain ⟨h20, hv, e1, e2, i1, i2, i3, hs⟩ := headR_ok he
      refine cut1 2 (use (x39a2 ns A C D E F H ks _ _ _ _ _ _ _) ⟨by decide, by decide +kernel, _, rfl, ne_str (or_cut (fun q => (nomatch q)) fun _ => ⟨by decide, by decide +kernel, _, rfl, ne_said (or_cut (fun q => (nomatch q)) fun _ => byW_of ho (by lia) ⟨ho, hl, ks, rfl, ho, hl, ne_look (or_last (fun q => (nomatch q)) fun _ => ?_)⟩)⟩)⟩)
      refine cut1 3 (use (x39a3 ns A C D E F H ks _ _ _ _ _ _ _) ⟨fun _ => ?_, fun q => (nomatch q)⟩)
      have hrl : (ks.take t.toNat).length = t.toNat := by rw [List.length_take]; lia
      have hro := oct_take ho t.toNat
      refine (show wpB SL (i39.drop 0) _ _ _ from cut1 0 (use (x39a30 ns A C D E F H ks _ _ _ _ _ _ _) (itT_of 2 hl (by lia) ⟨IntMulOk.of_left (by decide +kernel), itT_of 3 hl (by lia) ⟨trivial, by lia, by first | exact le_bigm (by assumption) | (rw [List.length_map, big_eq]; lia), ?_⟩⟩)))
      rw [← e2, ← List.map_take]
      have fx : fixed (ks.take t.toNat) = if dig (ks.take t.toNat) 10 = 255 ∧ dig (ks.take t.toNat) 11 = 255 then (ks.take t.toNat).take 10 ++ [0, 0] ++ (ks.take t.toNat).drop 12 else ks.take t.toNat := rfl
      have b10 := dig_oct hro 10
      generalize hr : ks.take t.toNat = r at *
      have other : ¬ (dig r 10 = 255 ∧ dig r 11 = 255) → wpB SL (i39.drop 2) (l39 ns A C D E F H [("octets", (.val (iL ks))), ("why", (.val (.str ""))), ("said", (.val (saidT (readIp ks h t)))), ("told", (.val (.tup [.str "", saidT (readIp ks h t), .bytes (fixed r)]))), ("right", (.val (iL r)))]) (idQ (seqQ SL (bb39.drop 4) (TQ (forTg (stAt 39 12)) N R M) (fun _ _ _ => False))) (fun _ _ _ => False) := fun q => by
        rw [if_neg q] at fx
        rw [fx]
        exact use (x39a32v ns A C D E F H ks _ _ _ _ _ r _ _) ⟨by decide, by decide +kernel, _, rfl, byW_of hro (by lia) (ne_bytes ⟨fun q => (nomatch q), fun _ => use (x39af ns A C D E F H ks _ _ _ _ _ _ _ _) (h4 _ _ _ _)⟩)⟩
      refine cut1 1 (use (x39a31 ns A C D E F H ks _ _ _ _ _ r _ _) (itT_of 10 (by lia) (by lia) (and_if (fun e10 => itT_of 11 (by lia) (by lia) (and_last (fun e11 => ?_) fun e11 => other fun q => by rw [q.2] at e11; exact nomatch e11)) fun e10 => other fun q => by rw [q.1] at e10; exact nomatch e10)))
      have q10 : dig r 10 = 255 := beq_iff_eq.mp e10
      have q11 : dig r 11 = 255 := beq_iff_eq.mp e11
      rw [if_pos ⟨q10, q11⟩] at fx
      have hmr : (r.map Tr.int).length = r.length := List.length_map _
      refine ⟨trivial, by decide, by first | exact le_big (by assumption) | (rw [big_eq]; lia), rfl, by rw [List.length_take, big_eq]; lia, by decide, trivial, by first | exact le_big (by assumption) | (rw [big_eq]; lia), by rw [List.length_append, List.length_take, List.length_drop, List.length_take, big_eq]; simp only [List.length_cons, List.length_nil]; lia, ?_⟩
      have er : (r.map Tr.int).take 10 ++ [Tr.int 0, Tr.int 0] ++ ((r.map Tr.int).take (r.map Tr.int).length).drop 12 = (r.take 10 ++ [0, 0] ++ r.drop 12).map Tr.int := by
        rw [List.take_length, List.map_append, List.map_append, List.map_take, List.map_drop]
        rfl
      rw [er, fx]
      have hno : oct (r.take 10 ++ [0, 0] ++ r.drop 12) := oct_append.mpr ⟨oct_append.mpr ⟨oct_take hro _, by unfold oct; decide⟩, oct_drop hro _⟩
      have hnl : (r.take 10 ++ [0, 0] ++ r.drop 12).length ≤ 1000 := by simp only [List.length_append, List.length_take, List.length_drop, List.length_cons, List.length_nil]; lia
      generalize r.take 10 ++ [0, 0] ++ r.drop 12 = r2 at *
      exact use (x39a32m ns A C D E F H ks _ _ _ _ _ r2 _ _) ⟨by decide, by decide +kernel, _, rfl, byW_of hno (by lia) (ne_bytes ⟨fun q => (nomatch q), fun _ => use (x39af ns A C D E F H ks _ _ _ _ _ _ _ _) (h4 _ _ _ _)⟩)⟩
theorem x39b0 (y0 s0 t0 : Slot) (Q : Fl → Loc → Prop) (X : XE) : wpB SL ((bb39.drop 0).take 1) (l39 ns A C D E F H [("why", y0), ("said", s0), ("told", t0), ("octets", (.val (iL ks)))]) Q X = ∃ ks1 : List Int, ks.map Tr.int = ks1.map Tr.int ∧ oct ks1 ∧ ks1.length ≤ 1000 ∧ (∀ e, headR ks1 = .error e → ∃ ρ2, some (l39 ns A C D E F H [("why", (.val (.str e))), ("said", (.val (.list []))), ("told", t0), ("octets", (.val (iL ks)))]) = some ρ2 ∧ Q .next ρ2) ∧ (∀ h t, headR ks1 = .ok (h, t) → ∃ ρ2, some (l39 ns A C D E F H [("why", (.val (.str ""))), ("said", (.val (saidT (readIp ks1 h t)))), ("told", t0), ("octets", (.val (iL ks)))]) = some ρ2 ∧ Q .next ρ2) := by kernel_rfl
theorem x39b1 (wy sd : Tr) (t0 : Slot) (Q : Fl → Loc → Prop) (X : XE) : wpB SL ((bb39.drop 1).take 1) (l39 ns A C D E F H [("why", (.val wy)), ("said", (.val sd)), ("told", t0), ("octets", (.val (iL ks)))]) Q X = ∃ ks1 : List Int, ks.map Tr.int = ks1.map Tr.int ∧ oct ks1 ∧ ks1.length ≤ 1000 ∧ (∀ e, headR ks1 = .error e → Q .next (l39 ns A C D E F H [("why", (.val wy)), ("said", (.val sd)), ("told", (.val (.tup [.str e, .list [], .bytes []]))), ("octets", (.val (iL ks)))])) ∧ (∀ h t, headR ks1 = .ok (h, t) → Q .next (l39 ns A C D E F H [("why", (.val wy)), ("said", (.val sd)), ("told", (.val (.tup [.str "", saidT (readIp ks1 h t), .bytes (fixed (ks1.take t.toNat))]))), ("octets", (.val (iL ks)))])) := by kernel_rfl
theorem x39b2 (wy sd u0 u1 u2 : Tr) (Q : Fl → Loc → Prop) (X : XE) : wpB SL ((bb39.drop 2).take 1) (l39 ns A C D E F H [("why", (.val wy)), ("said", (.val sd)), ("told", (.val (.tup [u0, u1, u2]))), ("octets", (.val (iL ks)))]) Q X = (0 ≤ (0 : Int) ∧ (0 : Int) < big ∧ ∃ t, some u0 = some t ∧ cmpW .NotEq t wy fun c => orW c (0 ≤ (1 : Int) ∧ (1 : Int) < big ∧ ∃ t, some u1 = some t ∧ cmpW .NotEq t sd fun c => orW c
  (byW (ks.map Tr.int) fun ns' => oct ns' ∧ ns'.length ≤ 1000 ∧ ∃ ks2 : List Int, ks.map Tr.int = ks2.map Tr.int ∧ oct ks2 ∧ ks2.length ≤ 1000 ∧ cmpW .NotEq (lookT ns') (lookT ks2) fun c => orW c (ifW false (Q (.ret (.bool false)) (l39 ns A C D E F H [("why", (.val wy)), ("said", (.val sd)), ("told", (.val (.tup [u0, u1, u2]))), ("octets", (.val (iL ks)))])) (Q .next (l39 ns A C D E F H [("why", (.val wy)), ("said", (.val sd)), ("told", (.val (.tup [u0, u1, u2]))), ("octets", (.val (iL ks)))]))) (fun c => ifW c (Q (.ret (.bool false)) (l39 ns A C D E F H [("why", (.val wy)), ("said", (.val sd)), ("told", (.val (.tup [u0, u1, u2]))), ("octets", (.val (iL ks)))])) (Q .next (l39 ns A C D E F H [("why", (.val wy)), ("said", (.val sd)), ("told", (.val (.tup [u0, u1, u2]))), ("octets", (.val (iL ks)))])))) (fun c => ifW c (Q (.ret (.bool false)) (l39 ns A C D E F H [("why", (.val wy)), ("said", (.val sd)), ("told", (.val (.tup [u0, u1, u2]))), ("octets", (.val (iL ks)))])) (Q .next (l39 ns A C D E F H [("why", (.val wy)), ("said", (.val sd)), ("told", (.val (.tup [u0, u1, u2]))), ("octets", (.val (iL ks)))])))) (fun c => ifW c (Q (.ret (.bool false)) (l39 ns A C D E F H [("why", (.val wy)), ("said", (.val sd)), ("told", (.val (.tup [u0, u1, u2]))), ("octets", (.val (iL ks)))])) (Q .next (l39 ns A C D E F H [("why", (.val wy)), ("said", (.val sd)), ("told", (.val (.tup [u0, u1, u2]))), ("octets", (.val (iL ks)))])))) := by kernel_rfl
theorem x39b3 (wy sd u0 u1 u2 : Tr) (Q : Fl → Loc → Prop) (X : XE) : wpB SL ((bb39.drop 3).take 1) (l39 ns A C D E F H [("why", (.val wy)), ("said", (.val sd)), ("told", (.val (.tup [u0, u1, u2]))), ("octets", (.val (iL ks)))]) Q X = cmpW .Eq wy (.str "") fun c => ifW c (wpB SL i39 (l39 ns A C D E F H [("why", (.val wy)), ("said", (.val sd)), ("told", (.val (.tup [u0, u1, u2]))), ("octets", (.val (iL ks)))]) (idQ Q) X) (Q .next (l39 ns A C D E F H [("why", (.val wy)), ("said", (.val sd)), ("told", (.val (.tup [u0, u1, u2]))), ("octets", (.val (iL ks)))])) := by kernel_rfl
theorem x39b30 (wy sd u0 u1 u2 : Tr) (Q : Fl → Loc → Prop) (X : XE) : wpB SL ((i39.drop 0).take 1) (l39 ns A C D E F H [("why", (.val wy)), ("said", (.val sd)), ("told", (.val (.tup [u0, u1, u2]))), ("octets", (.val (iL ks)))]) Q X = itT ks 2 fun a => binW .Mult (.int 256) a fun a => itT ks 3 fun b => binW .Add a b fun c => toW ks c fun ys => Q .next (l39 ns A C D E F H [("why", (.val wy)), ("said", (.val sd)), ("told", (.val (.tup [u0, u1, u2]))), ("octets", (.val (iL ks))), ("right", (.val (.list ys)))]) := by kernel_rfl
theorem x39b31 (wy sd u0 u1 u2 : Tr) (r : List Int) (Q : Fl → Loc → Prop) (X : XE) : wpB SL ((i39.drop 1).take 1) (l39 ns A C D E F H [("why", (.val wy)), ("said", (.val sd)), ("told", (.val (.tup [u0, u1, u2]))), ("octets", (.val (iL ks))), ("right", (.val (iL r)))]) Q X = itT r 10 fun t => cmpW .Eq t (.int 255) fun c => andW c (itT r 11 fun t => cmpW .Eq t (.int 255) fun c => andW c (ifW true (True ∧ 0 ≤ (10 : Int) ∧ (r.map Tr.int).length ≤ big ∧ Operator.Add = Operator.Add ∧ ((r.map Tr.int).take 10).length + 2 ≤ big ∧ 0 ≤ (12 : Int) ∧ True ∧ (r.map Tr.int).length ≤ big ∧ ((r.map Tr.int).take 10 ++ [Tr.int 0, Tr.int 0]).length + (((r.map Tr.int).take (r.map Tr.int).length).drop 12).length ≤ big ∧ Q .next (l39 ns A C D E F H [("why", (.val wy)), ("said", (.val sd)), ("told", (.val (.tup [u0, u1, u2]))), ("octets", (.val (iL ks))), ("right", (.mu (.list ((r.map Tr.int).take 10 ++ [Tr.int 0, Tr.int 0] ++ ((r.map Tr.int).take (r.map Tr.int).length).drop 12))))])) (Q .next (l39 ns A C D E F H [("why", (.val wy)), ("said", (.val sd)), ("told", (.val (.tup [u0, u1, u2]))), ("octets", (.val (iL ks))), ("right", (.val (iL r)))]))) (fun c => ifW c (True ∧ 0 ≤ (10 : Int) ∧ (r.map Tr.int).length ≤ big ∧ Operator.Add = Operator.Add ∧ ((r.map Tr.int).take 10).length + 2 ≤ big ∧ 0 ≤ (12 : Int) ∧ True ∧ (r.map Tr.int).length ≤ big ∧ ((r.map Tr.int).take 10 ++ [Tr.int 0, Tr.int 0]).length + (((r.map Tr.int).take (r.map Tr.int).length).drop 12).length ≤ big ∧ Q .next (l39 ns A C D E F H [("why", (.val wy)), ("said", (.val sd)), ("told", (.val (.tup [u0, u1, u2]))), ("octets", (.val (iL ks))), ("right", (.mu (.list ((r.map Tr.int).take 10 ++ [Tr.int 0, Tr.int 0] ++ ((r.map Tr.int).take (r.map Tr.int).length).drop 12))))])) (Q .next (l39 ns A C D E F H [("why", (.val wy)), ("said", (.val sd)), ("told", (.val (.tup [u0, u1, u2]))), ("octets", (.val (iL ks))), ("right", (.val (iL r)))])))) (fun c => ifW c (True ∧ 0 ≤ (10 : Int) ∧ (r.map Tr.int).length ≤ big ∧ Operator.Add = Operator.Add ∧ ((r.map Tr.int).take 10).length + 2 ≤ big ∧ 0 ≤ (12 : Int) ∧ True ∧ (r.map Tr.int).length ≤ big ∧ ((r.map Tr.int).take 10 ++ [Tr.int 0, Tr.int 0]).length + (((r.map Tr.int).take (r.map Tr.int).length).drop 12).length ≤ big ∧ Q .next (l39 ns A C D E F H [("why", (.val wy)), ("said", (.val sd)), ("told", (.val (.tup [u0, u1, u2]))), ("octets", (.val (iL ks))), ("right", (.mu (.list ((r.map Tr.int).take 10 ++ [Tr.int 0, Tr.int 0] ++ ((r.map Tr.int).take (r.map Tr.int).length).drop 12))))])) (Q .next (l39 ns A C D E F H [("why", (.val wy)), ("said", (.val sd)), ("told", (.val (.tup [u0, u1, u2]))), ("octets", (.val (iL ks))), ("right", (.val (iL r)))]))) := by kernel_rfl
theorem x39b32m (wy sd u0 u1 u2 : Tr) (r : List Int) (Q : Fl → Loc → Prop) (X : XE) : wpB SL (i39.drop 2) (l39 ns A C D E F H [("why", (.val wy)), ("said", (.val sd)), ("told", (.val (.tup [u0, u1, u2]))), ("octets", (.val (iL ks))), ("right", (.mu (iL r)))]) (idQ Q) X = (0 ≤ (2 : Int) ∧ (2 : Int) < big ∧ ∃ t, some u2 = some t ∧ byW (r.map Tr.int) fun ns' => cmpW .NotEq t (.bytes ns') fun c => ifW c (Q (.ret (.bool false)) (l39 ns A C D E F H [("why", (.val wy)), ("said", (.val sd)), ("told", (.val (.tup [u0, u1, u2]))), ("octets", (.val (iL ks))), ("right", (.mu (iL r)))])) (Q .next (l39 ns A C D E F H [("why", (.val wy)), ("said", (.val sd)), ("told", (.val (.tup [u0, u1, u2]))), ("octets", (.val (iL ks))), ("right", (.mu (iL r)))]))) := by kernel_rfl
theorem x39b32v (wy sd u0 u1 u2 : Tr) (r : List Int) (Q : Fl → Loc → Prop) (X : XE) : wpB SL (i39.drop 2) (l39 ns A C D E F H [("why", (.val wy)), ("said", (.val sd)), ("told", (.val (.tup [u0, u1, u2]))), ("octets", (.val (iL ks))), ("right", (.val (iL r)))]) (idQ Q) X = (0 ≤ (2 : Int) ∧ (2 : Int) < big ∧ ∃ t, some u2 = some t ∧ byW (r.map Tr.int) fun ns' => cmpW .NotEq t (.bytes ns') fun c => ifW c (Q (.ret (.bool false)) (l39 ns A C D E F H [("why", (.val wy)), ("said", (.val sd)), ("told", (.val (.tup [u0, u1, u2]))), ("octets", (.val (iL ks))), ("right", (.val (iL r)))])) (Q .next (l39 ns A C D E F H [("why", (.val wy)), ("said", (.val sd)), ("told", (.val (.tup [u0, u1, u2]))), ("octets", (.val (iL ks))), ("right", (.val (iL r)))]))) := by kernel_rfl
theorem x39be (wy sd : Tr) (td : Slot) (N : Loc → Prop) (R : Tr → Loc → Prop) (M : PySem.Str → Tr → Loc → Prop) (X : XE) : seqQ SL (bb39.drop 4) (TQ (forTg (stAt 39 12)) N R M) X .next (l39 ns A C D E F H [("why", (.val wy)), ("said", (.val sd)), ("told", td), ("octets", (.val (iL ks)))]) = N (l39 ns A C D E F H [("why", .val wy), ("said", .val sd), ("told", td)]) := by kernel_rfl
theorem x39bf (wy sd : Tr) (td rt : Slot) (N : Loc → Prop) (R : Tr → Loc → Prop) (M : PySem.Str → Tr → Loc → Prop) (X : XE) : seqQ SL (bb39.drop 4) (TQ (forTg (stAt 39 12)) N R M) X .next (l39 ns A C D E F H [("why", (.val wy)), ("said", (.val sd)), ("told", td), ("octets", (.val (iL ks))), ("right", rt)]) = N (l39 ns A C D E F H [("why", .val wy), ("said", .val sd), ("told", td), ("right", rt)]) := by kernel_rfl
theorem turn39b (y0 s0 t0 : Slot) (ho : oct ks) (hl : ks.length ≤ 1000) {N : Loc → Prop} {R : Tr → Loc → Prop} {M : PySem.Str → Tr → Loc → Prop} (h3 : ∀ wy sd td, N (l39 ns A C D E F H [("why", .val wy), ("said", .val sd), ("told", td)])) (h4 : ∀ wy sd td rt, N (l39 ns A C D E F H [("why", .val wy), ("said", .val sd), ("told", td), ("right", rt)])) :
    wpB SL (bb39.drop 0) (l39 ns A C D E F H [("why", y0), ("said", s0), ("told", t0), ("octets", (.val (iL ks)))]) (TQ (forTg (stAt 39 12)) N R M) (fun _ _ _ => False) := by
  refine cut1 0 (use (x39b0 ns A C D E F H ks y0 s0 t0 _ _) ⟨ks, rfl, ho, hl, fun e he => ⟨_, rfl, ?_⟩, fun h t he => ⟨_, rfl, ?_⟩⟩)
  · refine cut1 1 (use (x39b1 ns A C D E F H ks _ _ t0 _ _) ⟨ks, rfl, ho, hl, fun e' he' => ?_, fun h t he' => ?_⟩)
    · rw [he] at he'
      cases he'
      refine cut1 2 (use (x39b2 ns A C D E F H ks _ _ _ _ _ _ _) ⟨by decide, by decide +kernel, _, rfl, ne_str (or_cut (fun q => (nomatch q)) fun _ => ⟨by decide, by decide +kernel, _, rfl, ne_list (fun _ => trivial) rfl (or_cut (fun q => (nomatch q)) fun _ => byW_of ho (by lia) ⟨ho, hl, ks, rfl, ho, hl, ne_look (or_last (fun q => (nomatch q)) fun _ => ?_)⟩)⟩)⟩)
      refine cut1 3 (use (x39b3 ns A C D E F H ks _ _ _ _ _ _ _) ⟨fun q => ?_, fun _ => ?_⟩)
      · rw [headR_err he] at q; cases q
      · exact use (x39be ns A C D E F H ks _ _ _ _ _ _ _) (h3 _ _ _)
    · rw [he] at he'; cases he'
  · refine cut1 1 (use (x39b1 ns A C D E F H ks _ _ t0 _ _) ⟨ks, rfl, ho, hl, fun e' he' => ?_, fun h' t' he' => ?_⟩)
    · rw [he] at he'; cases he'
    · rw [he] at he'
      cases he'
      obtain ⟨h20, hv, e1, e2, i1, i2, i3, hs⟩ := headR_ok he
      refine cut1 2 (use (x39b2 ns A C D E F H ks _ _ _ _ _ _ _) ⟨by decide, by decide +kernel, _, rfl, ne_str (or_cut (fun q => (nomatch q)) fun _ => ⟨by decide, by decide +kernel, _, rfl, ne_said (or_cut (fun q => (nomatch q)) fun _ => byW_of ho (by lia) ⟨ho, hl, ks, rfl, ho, hl, ne_look (or_last (fun q => (nomatch q)) fun _ => ?_)⟩)⟩)⟩)
      refine cut1 3 (use (x39b3 ns A C D E F H ks _ _ _ _ _ _ _) ⟨fun _ => ?_, fun q => (nomatch q)⟩)
      have hrl : (ks.take t.toNat).length = t.toNat := by rw [List.length_take]; lia
      have hro := oct_take ho t.toNat
      refine (show wpB SL (i39.drop 0) _ _ _ from cut1 0 (use (x39b30 ns A C D E F H ks _ _ _ _ _ _ _) (itT_of 2 hl (by lia) ⟨IntMulOk.of_left (by decide +kernel), itT_of 3 hl (by lia) ⟨trivial, by lia, by first | exact le_bigm (by assumption) | (rw [List.length_map, big_eq]; lia), ?_⟩⟩)))
      rw [← e2, ← List.map_take]
      have fx : fixed (ks.take t.toNat) = if dig (ks.take t.toNat) 10 = 255 ∧ dig (ks.take t.toNat) 11 = 255 then (ks.take t.toNat).take 10 ++ [0, 0] ++ (ks.take t.toNat).drop 12 else ks.take t.toNat := rfl
      have b10 := dig_oct hro 10
      generalize hr : ks.take t.toNat = r at *
      have other : ¬ (dig r 10 = 255 ∧ dig r 11 = 255) → wpB SL (i39.drop 2) (l39 ns A C D E F H [("why", (.val (.str ""))), ("said", (.val (saidT (readIp ks h t)))), ("told", (.val (.tup [.str "", saidT (readIp ks h t), .bytes (fixed r)]))), ("octets", (.val (iL ks))), ("right", (.val (iL r)))]) (idQ (seqQ SL (bb39.drop 4) (TQ (forTg (stAt 39 12)) N R M) (fun _ _ _ => False))) (fun _ _ _ => False) := fun q => by
        rw [if_neg q] at fx
        rw [fx]
        exact use (x39b32v ns A C D E F H ks _ _ _ _ _ r _ _) ⟨by decide, by decide +kernel, _, rfl, byW_of hro (by lia) (ne_bytes ⟨fun q => (nomatch q), fun _ => use (x39bf ns A C D E F H ks _ _ _ _ _ _ _ _) (h4 _ _ _ _)⟩)⟩
      refine cut1 1 (use (x39b31 ns A C D E F H ks _ _ _ _ _ r _ _) (itT_of 10 (by lia) (by lia) (and_if (fun e10 => itT_of 11 (by lia) (by lia) (and_last (fun e11 => ?_) fun e11 => other fun q => by rw [q.2] at e11; exact nomatch e11)) fun e10 => other fun q => by rw [q.1] at e10; exact nomatch e10)))
      have q10 : dig r 10 = 255 := beq_iff_eq.mp e10
      have q11 : dig r 11 = 255 := beq_iff_eq.mp e11
      rw [if_pos ⟨q10, q11⟩] at fx
      have hmr : (r.map Tr.int).length = r.length := List.length_map _
      refine ⟨trivial, by decide, by first | exact le_big (by assumption) | (rw [big_eq]; lia), rfl, by rw [List.length_take, big_eq]; lia, by decide, trivial, by first | exact le_big (by assumption) | (rw [big_eq]; lia), by rw [List.length_append, List.length_take, List.length_drop, List.length_take, big_eq]; simp only [List.length_cons, List.length_nil]; lia, ?_⟩
      have er : (r.map Tr.int).take 10 ++ [Tr.int 0, Tr.int 0] ++ ((r.map Tr.int).take (r.map Tr.int).length).drop 12 = (r.take 10 ++ [0, 0] ++ r.drop 12).map Tr.int := by
        rw [List.take_length, List.map_append, List.map_append, List.map_take, List.map_drop]
        rfl
      rw [er, fx]
      have hno : oct (r.take 10 ++ [0, 0] ++ r.drop 12) := oct_append.mpr ⟨oct_append.mpr ⟨oct_take hro _, by unfold oct; decide⟩, oct_drop hro _⟩
      have hnl : (r.take 10 ++ [0, 0] ++ r.drop 12).length ≤ 1000 := by simp only [List.length_append, List.length_take, List.length_drop, List.length_cons, List.length_nil]; lia
      generalize r.take 10 ++ [0, 0] ++ r.drop 12 = r2 at *
      exact use (x39b32m ns A C D E F H ks _ _ _ _ _ r2 _ _) ⟨by decide, by decide +kernel, _, rfl, byW_of hno (by lia) (ne_bytes ⟨fun q => (nomatch q), fun _ => use (x39bf ns A C D E F H ks _ _ _ _ _ _ _ _) (h4 _ _ _ _)⟩)⟩
theorem x39c0 (y0 s0 t0 r0 : Slot) (Q : Fl → Loc → Prop) (X : XE) : wpB SL ((bb39.drop 0).take 1) (l39 ns A C D E F H [("why", y0), ("said", s0), ("told", t0), ("right", r0), ("octets", (.val (iL ks)))]) Q X = ∃ ks1 : List Int, ks.map Tr.int = ks1.map Tr.int ∧ oct ks1 ∧ ks1.length ≤ 1000 ∧ (∀ e, headR ks1 = .error e → ∃ ρ2, some (l39 ns A C D E F H [("why", (.val (.str e))), ("said", (.val (.list []))), ("told", t0), ("right", r0), ("octets", (.val (iL ks)))]) = some ρ2 ∧ Q .next ρ2) ∧ (∀ h t, headR ks1 = .ok (h, t) → ∃ ρ2, some (l39 ns A C D E F H [("why", (.val (.str ""))), ("said", (.val (saidT (readIp ks1 h t)))), ("told", t0), ("right", r0), ("octets", (.val (iL ks)))]) = some ρ2 ∧ Q .next ρ2) := by kernel_rfl
theorem x39c1 (wy sd : Tr) (t0 r0 : Slot) (Q : Fl → Loc → Prop) (X : XE) : wpB SL ((bb39.drop 1).take 1) (l39 ns A C D E F H [("why", (.val wy)), ("said", (.val sd)), ("told", t0), ("right", r0), ("octets", (.val (iL ks)))]) Q X = ∃ ks1 : List Int, ks.map Tr.int = ks1.map Tr.int ∧ oct ks1 ∧ ks1.length ≤ 1000 ∧ (∀ e, headR ks1 = .error e → Q .next (l39 ns A C D E F H [("why", (.val wy)), ("said", (.val sd)), ("told", (.val (.tup [.str e, .list [], .bytes []]))), ("right", r0), ("octets", (.val (iL ks)))])) ∧ (∀ h t, headR ks1 = .ok (h, t) → Q .next (l39 ns A C D E F H [("why", (.val wy)), ("said", (.val sd)), ("told", (.val (.tup [.str "", saidT (readIp ks1 h t), .bytes (fixed (ks1.take t.toNat))]))), ("right", r0), ("octets", (.val (iL ks)))])) := by kernel_rfl
theorem x39c2 (wy sd u0 u1 u2 : Tr) (r0 : Slot) (Q : Fl → Loc → Prop) (X : XE) : wpB SL ((bb39.drop 2).take 1) (l39 ns A C D E F H [("why", (.val wy)), ("said", (.val sd)), ("told", (.val (.tup [u0, u1, u2]))), ("right", r0), ("octets", (.val (iL ks)))]) Q X = (0 ≤ (0 : Int) ∧ (0 : Int) < big ∧ ∃ t, some u0 = some t ∧ cmpW .NotEq t wy fun c => orW c (0 ≤ (1 : Int) ∧ (1 : Int) < big ∧ ∃ t, some u1 = some t ∧ cmpW .NotEq t sd fun c => orW c
  (byW (ks.map Tr.int) fun ns' => oct ns' ∧ ns'.length ≤ 1000 ∧ ∃ ks2 : List Int, ks.map Tr.int = ks2.map Tr.int ∧ oct ks2 ∧ ks2.length ≤ 1000 ∧ cmpW .NotEq (lookT ns') (lookT ks2) fun c => orW c (ifW false (Q (.ret (.bool false)) (l39 ns A C D E F H [("why", (.val wy)), ("said", (.val sd)), ("told", (.val (.tup [u0, u1, u2]))), ("right", r0), ("octets", (.val (iL ks)))])) (Q .next (l39 ns A C D E F H [("why", (.val wy)), ("said", (.val sd)), ("told", (.val (.tup [u0, u1, u2]))), ("right", r0), ("octets", (.val (iL ks)))]))) (fun c => ifW c (Q (.ret (.bool false)) (l39 ns A C D E F H [("why", (.val wy)), ("said", (.val sd)), ("told", (.val (.tup [u0, u1, u2]))), ("right", r0), ("octets", (.val (iL ks)))])) (Q .next (l39 ns A C D E F H [("why", (.val wy)), ("said", (.val sd)), ("told", (.val (.tup [u0, u1, u2]))), ("right", r0), ("octets", (.val (iL ks)))])))) (fun c => ifW c (Q (.ret (.bool false)) (l39 ns A C D E F H [("why", (.val wy)), ("said", (.val sd)), ("told", (.val (.tup [u0, u1, u2]))), ("right", r0), ("octets", (.val (iL ks)))])) (Q .next (l39 ns A C D E F H [("why", (.val wy)), ("said", (.val sd)), ("told", (.val (.tup [u0, u1, u2]))), ("right", r0), ("octets", (.val (iL ks)))])))) (fun c => ifW c (Q (.ret (.bool false)) (l39 ns A C D E F H [("why", (.val wy)), ("said", (.val sd)), ("told", (.val (.tup [u0, u1, u2]))), ("right", r0), ("octets", (.val (iL ks)))])) (Q .next (l39 ns A C D E F H [("why", (.val wy)), ("said", (.val sd)), ("told", (.val (.tup [u0, u1, u2]))), ("right", r0), ("octets", (.val (iL ks)))])))) := by kernel_rfl
theorem x39c3 (wy sd u0 u1 u2 : Tr) (r0 : Slot) (Q : Fl → Loc → Prop) (X : XE) : wpB SL ((bb39.drop 3).take 1) (l39 ns A C D E F H [("why", (.val wy)), ("said", (.val sd)), ("told", (.val (.tup [u0, u1, u2]))), ("right", r0), ("octets", (.val (iL ks)))]) Q X = cmpW .Eq wy (.str "") fun c => ifW c (wpB SL i39 (l39 ns A C D E F H [("why", (.val wy)), ("said", (.val sd)), ("told", (.val (.tup [u0, u1, u2]))), ("right", r0), ("octets", (.val (iL ks)))]) (idQ Q) X) (Q .next (l39 ns A C D E F H [("why", (.val wy)), ("said", (.val sd)), ("told", (.val (.tup [u0, u1, u2]))), ("right", r0), ("octets", (.val (iL ks)))])) := by kernel_rfl
theorem x39c30 (wy sd u0 u1 u2 : Tr) (r0 : Slot) (Q : Fl → Loc → Prop) (X : XE) : wpB SL ((i39.drop 0).take 1) (l39 ns A C D E F H [("why", (.val wy)), ("said", (.val sd)), ("told", (.val (.tup [u0, u1, u2]))), ("right", r0), ("octets", (.val (iL ks)))]) Q X = itT ks 2 fun a => binW .Mult (.int 256) a fun a => itT ks 3 fun b => binW .Add a b fun c => toW ks c fun ys => Q .next (l39 ns A C D E F H [("why", (.val wy)), ("said", (.val sd)), ("told", (.val (.tup [u0, u1, u2]))), ("right", (.val (.list ys))), ("octets", (.val (iL ks)))]) := by kernel_rfl
theorem x39c31 (wy sd u0 u1 u2 : Tr) (r : List Int) (Q : Fl → Loc → Prop) (X : XE) : wpB SL ((i39.drop 1).take 1) (l39 ns A C D E F H [("why", (.val wy)), ("said", (.val sd)), ("told", (.val (.tup [u0, u1, u2]))), ("right", (.val (iL r))), ("octets", (.val (iL ks)))]) Q X = itT r 10 fun t => cmpW .Eq t (.int 255) fun c => andW c (itT r 11 fun t => cmpW .Eq t (.int 255) fun c => andW c (ifW true (True ∧ 0 ≤ (10 : Int) ∧ (r.map Tr.int).length ≤ big ∧ Operator.Add = Operator.Add ∧ ((r.map Tr.int).take 10).length + 2 ≤ big ∧ 0 ≤ (12 : Int) ∧ True ∧ (r.map Tr.int).length ≤ big ∧ ((r.map Tr.int).take 10 ++ [Tr.int 0, Tr.int 0]).length + (((r.map Tr.int).take (r.map Tr.int).length).drop 12).length ≤ big ∧ Q .next (l39 ns A C D E F H [("why", (.val wy)), ("said", (.val sd)), ("told", (.val (.tup [u0, u1, u2]))), ("right", (.mu (.list ((r.map Tr.int).take 10 ++ [Tr.int 0, Tr.int 0] ++ ((r.map Tr.int).take (r.map Tr.int).length).drop 12)))), ("octets", (.val (iL ks)))])) (Q .next (l39 ns A C D E F H [("why", (.val wy)), ("said", (.val sd)), ("told", (.val (.tup [u0, u1, u2]))), ("right", (.val (iL r))), ("octets", (.val (iL ks)))]))) (fun c => ifW c (True ∧ 0 ≤ (10 : Int) ∧ (r.map Tr.int).length ≤ big ∧ Operator.Add = Operator.Add ∧ ((r.map Tr.int).take 10).length + 2 ≤ big ∧ 0 ≤ (12 : Int) ∧ True ∧ (r.map Tr.int).length ≤ big ∧ ((r.map Tr.int).take 10 ++ [Tr.int 0, Tr.int 0]).length + (((r.map Tr.int).take (r.map Tr.int).length).drop 12).length ≤ big ∧ Q .next (l39 ns A C D E F H [("why", (.val wy)), ("said", (.val sd)), ("told", (.val (.tup [u0, u1, u2]))), ("right", (.mu (.list ((r.map Tr.int).take 10 ++ [Tr.int 0, Tr.int 0] ++ ((r.map Tr.int).take (r.map Tr.int).length).drop 12)))), ("octets", (.val (iL ks)))])) (Q .next (l39 ns A C D E F H [("why", (.val wy)), ("said", (.val sd)), ("told", (.val (.tup [u0, u1, u2]))), ("right", (.val (iL r))), ("octets", (.val (iL ks)))])))) (fun c => ifW c (True ∧ 0 ≤ (10 : Int) ∧ (r.map Tr.int).length ≤ big ∧ Operator.Add = Operator.Add ∧ ((r.map Tr.int).take 10).length + 2 ≤ big ∧ 0 ≤ (12 : Int) ∧ True ∧ (r.map Tr.int).length ≤ big ∧ ((r.map Tr.int).take 10 ++ [Tr.int 0, Tr.int 0]).length + (((r.map Tr.int).take (r.map Tr.int).length).drop 12).length ≤ big ∧ Q .next (l39 ns A C D E F H [("why", (.val wy)), ("said", (.val sd)), ("told", (.val (.tup [u0, u1, u2]))), ("right", (.mu (.list ((r.map Tr.int).take 10 ++ [Tr.int 0, Tr.int 0] ++ ((r.map Tr.int).take (r.map Tr.int).length).drop 12)))), ("octets", (.val (iL ks)))])) (Q .next (l39 ns A C D E F H [("why", (.val wy)), ("said", (.val sd)), ("told", (.val (.tup [u0, u1, u2]))), ("right", (.val (iL r))), ("octets", (.val (iL ks)))]))) := by kernel_rfl
theorem x39c32m (wy sd u0 u1 u2 : Tr) (r : List Int) (Q : Fl → Loc → Prop) (X : XE) : wpB SL (i39.drop 2) (l39 ns A C D E F H [("why", (.val wy)), ("said", (.val sd)), ("told", (.val (.tup [u0, u1, u2]))), ("right", (.mu (iL r))), ("octets", (.val (iL ks)))]) (idQ Q) X = (0 ≤ (2 : Int) ∧ (2 : Int) < big ∧ ∃ t, some u2 = some t ∧ byW (r.map Tr.int) fun ns' => cmpW .NotEq t (.bytes ns') fun c => ifW c (Q (.ret (.bool false)) (l39 ns A C D E F H [("why", (.val wy)), ("said", (.val sd)), ("told", (.val (.tup [u0, u1, u2]))), ("right", (.mu (iL r))), ("octets", (.val (iL ks)))])) (Q .next (l39 ns A C D E F H [("why", (.val wy)), ("said", (.val sd)), ("told", (.val (.tup [u0, u1, u2]))), ("right", (.mu (iL r))), ("octets", (.val (iL ks)))]))) := by kernel_rfl
theorem x39c32v (wy sd u0 u1 u2 : Tr) (r : List Int) (Q : Fl → Loc → Prop) (X : XE) : wpB SL (i39.drop 2) (l39 ns A C D E F H [("why", (.val wy)), ("said", (.val sd)), ("told", (.val (.tup [u0, u1, u2]))), ("right", (.val (iL r))), ("octets", (.val (iL ks)))]) (idQ Q) X = (0 ≤ (2 : Int) ∧ (2 : Int) < big ∧ ∃ t, some u2 = some t ∧ byW (r.map Tr.int) fun ns' => cmpW .NotEq t (.bytes ns') fun c => ifW c (Q (.ret (.bool false)) (l39 ns A C D E F H [("why", (.val wy)), ("said", (.val sd)), ("told", (.val (.tup [u0, u1, u2]))), ("right", (.val (iL r))), ("octets", (.val (iL ks)))])) (Q .next (l39 ns A C D E F H [("why", (.val wy)), ("said", (.val sd)), ("told", (.val (.tup [u0, u1, u2]))), ("right", (.val (iL r))), ("octets", (.val (iL ks)))]))) := by kernel_rfl
theorem x39ce (wy sd : Tr) (td : Slot) (r0 : Slot) (N : Loc → Prop) (R : Tr → Loc → Prop) (M : PySem.Str → Tr → Loc → Prop) (X : XE) : seqQ SL (bb39.drop 4) (TQ (forTg (stAt 39 12)) N R M) X .next (l39 ns A C D E F H [("why", (.val wy)), ("said", (.val sd)), ("told", td), ("right", r0), ("octets", (.val (iL ks)))]) = N (l39 ns A C D E F H [("why", .val wy), ("said", .val sd), ("told", td), ("right", r0)]) := by kernel_rfl
theorem x39cf (wy sd : Tr) (td rt : Slot) (N : Loc → Prop) (R : Tr → Loc → Prop) (M : PySem.Str → Tr → Loc → Prop) (X : XE) : seqQ SL (bb39.drop 4) (TQ (forTg (stAt 39 12)) N R M) X .next (l39 ns A C D E F H [("why", (.val wy)), ("said", (.val sd)), ("told", td), ("right", rt), ("octets", (.val (iL ks)))]) = N (l39 ns A C D E F H [("why", .val wy), ("said", .val sd), ("told", td), ("right", rt)]) := by kernel_rfl
theorem turn39c (y0 s0 t0 r0 : Slot) (ho : oct ks) (hl : ks.length ≤ 1000) {N : Loc → Prop} {R : Tr → Loc → Prop} {M : PySem.Str → Tr → Loc → Prop} (h3 : ∀ wy sd td, N (l39 ns A C D E F H [("why", .val wy), ("said", .val sd), ("told", td)])) (h4 : ∀ wy sd td rt, N (l39 ns A C D E F H [("why", .val wy), ("said", .val sd), ("told", td), ("right", rt)])) :
    wpB SL (bb39.drop 0) (l39 ns A C D E F H [("why", y0), ("said", s0), ("told", t0), ("right", r0), ("octets", (.val (iL ks)))]) (TQ (forTg (stAt 39 12)) N R M) (fun _ _ _ => False) := by
  refine cut1 0 (use (x39c0 ns A C D E F H ks y0 s0 t0 r0 _ _) ⟨ks, rfl, ho, hl, fun e he => ⟨_, rfl, ?_⟩, fun h t he => ⟨_, rfl, ?_⟩⟩)
  · refine cut1 1 (use (x39c1 ns A C D E F H ks _ _ t0 r0 _ _) ⟨ks, rfl, ho, hl, fun e' he' => ?_, fun h t he' => ?_⟩)
    · rw [he] at he'
      cases he'
      refine cut1 2 (use (x39c2 ns A C D E F H ks _ _ _ _ _ r0 _ _) ⟨by decide, by decide +kernel, _, rfl, ne_str (or_cut (fun q => (nomatch q)) fun _ => ⟨by decide, by decide +kernel, _, rfl, ne_list (fun _ => trivial) rfl (or_cut (fun q => (nomatch q)) fun _ => byW_of ho (by lia) ⟨ho, hl, ks, rfl, ho, hl, ne_look (or_last (fun q => (nomatch q)) fun _ => ?_)⟩)⟩)⟩)
      refine cut1 3 (use (x39c3 ns A C D E F H ks _ _ _ _ _ r0 _ _) ⟨fun q => ?_, fun _ => ?_⟩)
      · rw [headR_err he] at q; cases q
      · exact use (x39ce ns A C D E F H ks _ _ _ r0 _ _ _ _) (h4 _ _ _ _)
    · rw [he] at he'; cases he'
  · refine cut1 1 (use (x39c1 ns A C D E F H ks _ _ t0 r0 _ _) ⟨ks, rfl, ho, hl, fun e' he' => ?_, fun h' t' he' => ?_⟩)
    · rw [he] at he'; cases he'
    · rw [he] at he'
      cases he'
      obtain ⟨h20, hv, e1, e2, i1, i2, i3, hs⟩ := headR_ok he
      refine cut1 2 (use (x39c2 ns A C D E F H ks _ _ _ _ _ r0 _ _) ⟨by decide, by decide +kernel, _, rfl, ne_str (or_cut (fun q => (nomatch q)) fun _ => ⟨by decide, by decide +kernel, _, rfl, ne_said (or_cut (fun q => (nomatch q)) fun _ => byW_of ho (by lia) ⟨ho, hl, ks, rfl, ho, hl, ne_look (or_last (fun q => (nomatch q)) fun _ => ?_)⟩)⟩)⟩)
      refine cut1 3 (use (x39c3 ns A C D E F H ks _ _ _ _ _ r0 _ _) ⟨fun _ => ?_, fun q => (nomatch q)⟩)
      have hrl : (ks.take t.toNat).length = t.toNat := by rw [List.length_take]; lia
      have hro := oct_take ho t.toNat
      refine (show wpB SL (i39.drop 0) _ _ _ from cut1 0 (use (x39c30 ns A C D E F H ks _ _ _ _ _ r0 _ _) (itT_of 2 hl (by lia) ⟨IntMulOk.of_left (by decide +kernel), itT_of 3 hl (by lia) ⟨trivial, by lia, by first | exact le_bigm (by assumption) | (rw [List.length_map, big_eq]; lia), ?_⟩⟩)))
      rw [← e2, ← List.map_take]
      have fx : fixed (ks.take t.toNat) = if dig (ks.take t.toNat) 10 = 255 ∧ dig (ks.take t.toNat) 11 = 255 then (ks.take t.toNat).take 10 ++ [0, 0] ++ (ks.take t.toNat).drop 12 else ks.take t.toNat := rfl
      have b10 := dig_oct hro 10
      generalize hr : ks.take t.toNat = r at *
      have other : ¬ (dig r 10 = 255 ∧ dig r 11 = 255) → wpB SL (i39.drop 2) (l39 ns A C D E F H [("why", (.val (.str ""))), ("said", (.val (saidT (readIp ks h t)))), ("told", (.val (.tup [.str "", saidT (readIp ks h t), .bytes (fixed r)]))), ("right", (.val (iL r))), ("octets", (.val (iL ks)))]) (idQ (seqQ SL (bb39.drop 4) (TQ (forTg (stAt 39 12)) N R M) (fun _ _ _ => False))) (fun _ _ _ => False) := fun q => by
        rw [if_neg q] at fx
        rw [fx]
        exact use (x39c32v ns A C D E F H ks _ _ _ _ _ r _ _) ⟨by decide, by decide +kernel, _, rfl, byW_of hro (by lia) (ne_bytes ⟨fun q => (nomatch q), fun _ => use (x39cf ns A C D E F H ks _ _ _ _ _ _ _ _) (h4 _ _ _ _)⟩)⟩
      refine cut1 1 (use (x39c31 ns A C D E F H ks _ _ _ _ _ r _ _) (itT_of 10 (by lia) (by lia) (and_if (fun e10 => itT_of 11 (by lia) (by lia) (and_last (fun e11 => ?_) fun e11 => other fun q => by rw [q.2] at e11; exact nomatch e11)) fun e10 => other fun q => by rw [q.1] at e10; exact nomatch e10)))
      have q10 : dig r 10 = 255 := beq_iff_eq.mp e10
      have q11 : dig r 11 = 255 := beq_iff_eq.mp e11
      rw [if_pos ⟨q10, q11⟩] at fx
      have hmr : (r.map Tr.int).length = r.length := List.length_map _
      refine ⟨trivial, by decide, by first | exact le_big (by assumption) | (rw [big_eq]; lia), rfl, by rw [List.length_take, big_eq]; lia, by decide, trivial, by first | exact le_big (by assumption) | (rw [big_eq]; lia), by rw [List.length_append, List.length_take, List.length_drop, List.length_take, big_eq]; simp only [List.length_cons, List.length_nil]; lia, ?_⟩
      have er : (r.map Tr.int).take 10 ++ [Tr.int 0, Tr.int 0] ++ ((r.map Tr.int).take (r.map Tr.int).length).drop 12 = (r.take 10 ++ [0, 0] ++ r.drop 12).map Tr.int := by
        rw [List.take_length, List.map_append, List.map_append, List.map_take, List.map_drop]
        rfl
      rw [er, fx]
      have hno : oct (r.take 10 ++ [0, 0] ++ r.drop 12) := oct_append.mpr ⟨oct_append.mpr ⟨oct_take hro _, by unfold oct; decide⟩, oct_drop hro _⟩
      have hnl : (r.take 10 ++ [0, 0] ++ r.drop 12).length ≤ 1000 := by simp only [List.length_append, List.length_take, List.length_drop, List.length_cons, List.length_nil]; lia
      generalize r.take 10 ++ [0, 0] ++ r.drop 12 = r2 at *
      exact use (x39c32m ns A C D E F H ks _ _ _ _ _ r2 _ _) ⟨by decide, by decide +kernel, _, rfl, byW_of hno (by lia) (ne_bytes ⟨fun q => (nomatch q), fun _ => use (x39cf ns A C D E F H ks _ _ _ _ _ _ _ _) (h4 _ _ _ _)⟩)⟩
end
end
end Mine
end
section
open PySem PySem.W PySem.Spec PySem.Calls PyProof.Rows
set_option Elab.async false
namespace Mine
set_option tactic.hygienic false
set_option maxRecDepth 100000
theorem bits_div (x : Int) : Builtin.Int.intBits (x / 16) ≤ Builtin.Int.intBits x := by
  unfold Builtin.Int.intBits
  by_cases h : x / 16 = 0
  · rw [h]; exact Nat.zero_le _
  · have hx : x ≠ 0 := fun e => h (by rw [e]; rfl)
    rw [if_neg (by simpa using h), if_neg (by simpa using hx)]
    have h1 : (x / 16).natAbs ≤ x.natAbs := by lia
    have h2 : x.natAbs < 2 ^ (x.natAbs.log2 + 1) := Nat.lt_log2_self
    have h3 : (x / 16).natAbs ≠ 0 := by lia
    have := (Nat.log2_lt h3).mpr (Nat.lt_of_le_of_lt h1 h2)
    lia
theorem bits_dig {ns : List Int} (h : ∀ x ∈ ns, Builtin.Int.intBits x ≤ 1048576) (p : Nat) : Builtin.Int.intBits (dig ns p) ≤ 1048576 := by
  by_cases q : p < ns.length
  · exact h _ (List.mem_of_getElem? (dig_get q))
  · unfold dig
    rw [List.getD_eq_getElem?_getD, List.getElem?_eq_none (by lia)]
    exact Nat.zero_le _
theorem small_fld {ns : List Int} (h : ∀ x ∈ ns, Builtin.Int.intBits x ≤ 1048576) (p : Nat) (u tp : Int) (h0 : 0 < tp) (h1 : tp ≤ 65536) : small (fld ns p u tp) := by
  unfold fld small
  split
  · exact Nat.le_trans (bits_div _) (Nat.le_trans (bits_dig h p) (by decide))
  · have a := Int.emod_nonneg (dig ns p / 16 + u) (Int.ne_of_gt h0)
    have b := Int.emod_lt_of_pos (dig ns p / 16 + u) h0
    exact Nat.le_trans (bits_le (n := 64) a (by lia)) (by decide)
theorem ne_want {x : Nine} {o d : List Int} {K : Bool → Prop} (h : K false) : cmpW .NotEq (wantT x o d) (wantT x o d) K := by
  have two : ∀ (a : PySem.Str) (b : Tr), okT 2 b b → eqT 2 b b = true → cmpW .NotEq (.tup [.str a, b]) (.tup [.str a, b]) K := fun a b h1 h2 => ne_tup ⟨trivial, h1, trivial⟩ (eqL_refl fun y hy => by
    simp only [List.mem_cons, List.not_mem_nil, _root_.or_false] at hy
    rcases hy with rfl | rfl
    · exact beq_self_eq_true _
    · exact h2) h
  unfold wantT
  split
  · exact two _ _ trivial (beq_self_eq_true _)
  · split
    · exact two _ _ trivial (beq_self_eq_true _)
    · split
      · exact two _ _ trivial (beq_self_eq_true _)
      · exact two _ _ trivial (beq_self_eq_true _)
theorem want_two (x : Nine) (o d : List Int) : ∃ a b, wantT x o d = .tup [.str a, b] ∧ ((a == "") = true → oct o → oct d → o.length ≤ 500 → d.length ≤ 500 → ∃ ks, b = .bytes ks ∧ oct ks ∧ ks.length ≤ 1000) := by
  unfold wantT
  split
  · exact ⟨_, _, rfl, fun q => nomatch (show false = true from (by decide +kernel : (("BadPacket" : PySem.Str) == "") = false) ▸ q)⟩
  · split
    · exact ⟨_, _, rfl, fun q => nomatch (show false = true from (by decide +kernel : (("Misused" : PySem.Str) == "") = false) ▸ q)⟩
    · split
      · exact ⟨_, _, rfl, fun q => nomatch (show false = true from (by decide +kernel : (("Misused" : PySem.Str) == "") = false) ▸ q)⟩
      · refine ⟨_, _, rfl, fun _ ho hd hol hdl => ⟨_, rfl, oct_append.mpr ⟨x.headL_oct _ _, hd⟩, ?_⟩⟩
        have := pad_len o
        rw [List.length_append, x.headL_len]
        lia
section
noncomputable abbrev x10 : Nine := ⟨16909060, 84281096, 6, 64, 0, 0, 0, 0, 0⟩
noncomputable abbrev i10 : Ip := ⟨16909060, 84281096, 6, [7], 64, 0, 0, 0, 0, 0, []⟩
variable (ns : List Int)
noncomputable abbrev f39 (ts : List Tr) : Loc := [("script", .val (iL ns)), ("fields", .mu (.list ts))]
theorem w39_0 (Q : Fl → Loc → Prop) (X : XE) : wpB SL ((b39.drop 0).take 1) [("script", .val (iL ns))] Q X = p32W fun a => fldW ns 0 2130706433 a fun x => p32W fun b => p32W fun c => fldW ns 1 (b - 2) c fun y => Q .next (f39 ns [.int x, .int y]) := by kernel_rfl
theorem w39_1 (a b : Tr) (Q : Fl → Loc → Prop) (X : XE) : wpB SL ((b39.drop 1).take 1) (f39 ns [a, b]) Q X = fldW ns 2 17 256 fun x => fldW ns 3 64 256 fun y => 2 + 2 ≤ big ∧ Q .next (f39 ns [a, b, .int x, .int y]) := by kernel_rfl
theorem w39_2 (a b c d : Tr) (Q : Fl → Loc → Prop) (X : XE) : wpB SL ((b39.drop 2).take 1) (f39 ns [a, b, c, d]) Q X = fldW ns 4 4660 65536 fun x => fldW ns 5 3 8 fun y => 4 + 2 ≤ big ∧ Q .next (f39 ns [a, b, c, d, .int x, .int y]) := by kernel_rfl
theorem w39_3 (a b c d e f : Tr) (Q : Fl → Loc → Prop) (X : XE) : wpB SL ((b39.drop 3).take 1) (f39 ns [a, b, c, d, e, f]) Q X = fldW ns 6 5 8192 fun g => IntMulOk 8 g ∧ fldW ns 7 10 64 fun h => fldW ns 8 1 4 fun i => 6 + 3 ≤ big ∧ Q .next (f39 ns [a, b, c, d, e, f, .int (8 * g), .int h, .int i]) := by kernel_rfl
theorem w39_4 (a b c d e f g h i : Tr) (Q : Fl → Loc → Prop) (X : XE) : wpB SL ((b39.drop 4).take 1) (f39 ns [a, b, c, d, e, f, g, h, i]) Q X = digW ns 6 fun u => 0 < (16 : Int) ∧ ifW (u % 16 == 15) (digW ns 6 fun v => 0 < (16 : Int) ∧ (16 : Int).natAbs.log2 < 9000 ∧ some (Slot.mu (.list [a, b, c, d, e, f, g, h, i])) = some (Slot.mu (.list [a, b, c, d, e, f, g, h, i])) ∧ 0 ≤ (6 : Int) ∧ (6 : Int) < ([a, b, c, d, e, f, g, h, i].length : Int) ∧ (6 : Int) < big ∧ Q .next (f39 ns [a, b, c, d, e, f, .int (v / 16), h, i])) (Q .next (f39 ns [a, b, c, d, e, f, g, h, i])) := by kernel_rfl
theorem w39_5 (ts : List Tr) (Q : Fl → Loc → Prop) (X : XE) : wpB SL ((b39.drop 5).take 1) (f39 ns ts) Q X = digW ns 9 fun a => digW ns 10 fun b => 0 < (45 : Int) ∧ someW a ((b + 6) % 45) 1 fun o => Q .next [("script", .val (iL ns)), ("fields", .mu (.list ts)), ("options", .mu (iL o))] := by kernel_rfl
theorem w39_6 (ts : List Tr) (o : List Int) (Q : Fl → Loc → Prop) (X : XE) : wpB SL ((b39.drop 6).take 1) [("script", .val (iL ns)), ("fields", .mu (.list ts)), ("options", .mu (iL o))] Q X = digW ns 11 fun a => digW ns 12 fun b => 0 < (9 : Int) ∧ someW a ((b + 5) % 9) 200 fun d => Q .next [("script", .val (iL ns)), ("fields", .mu (.list ts)), ("options", .mu (iL o)), ("data", .mu (iL d))] := by kernel_rfl
noncomputable abbrev d39 (x : Nine) (o d : List Int) (T : Tr) (z : Loc) : Loc := ("script", .val (iL ns)) :: ("fields", .val x.tr) :: ("options", .val (iL o)) :: ("data", .val (iL d)) :: ("due", .val T) :: z
theorem w39_7 (x : Nine) (o d : List Int) (Q : Fl → Loc → Prop) (X : XE) : wpB SL ((b39.drop 7).take 1) [("script", .val (iL ns)), ("fields", .mu x.tr), ("options", .mu (iL o)), ("data", .mu (iL d))] Q X = ∃ o' k, o.map Tr.int = o'.map Tr.int ∧ d.map Tr.int = k.map Tr.int ∧ oct o' ∧ oct k ∧ o'.length ≤ 500 ∧ k.length ≤ 500 ∧ Q .next (d39 ns x o d (wantT x o' k) []) := by kernel_rfl
theorem w39_8 (x : Nine) (o d : List Int) (T : Tr) (Q : Fl → Loc → Prop) (X : XE) : wpB SL ((b39.drop 8).take 1) (d39 ns x o d T []) Q X = ∃ o' k : List Int, o.map Tr.int = o'.map Tr.int ∧ d.map Tr.int = k.map Tr.int ∧ oct o' ∧ oct k ∧ o'.length ≤ 500 ∧ k.length ≤ 500 ∧ small x.h ∧ small x.f ∧ cmpW .NotEq (wantT x o' k) T fun c => ifW c (Q (.ret (.bool false)) (d39 ns x o d T [])) (Q .next (d39 ns x o d T [])) := by kernel_rfl
theorem w39_9 (x : Nine) (o d : List Int) (T : Tr) (Q : Fl → Loc → Prop) (X : XE) : wpB SL ((b39.drop 9).take 1) (d39 ns x o d T []) Q X = ∃ o' : List Int, [] = o'.map Tr.int ∧ oct o' ∧ o'.length ≤ 44 ∧ (0 ≤ (21 : Int) ∧ (21 : Int) < 65536) ∧ x10.fits ∧ ((x10.headL (pad o') 21).map Tr.int).length + 1 ≤ big ∧ Q .next (d39 ns x o d T [("usual", .mu (.list ((x10.headL (pad o') 21).map Tr.int ++ [.int 7])))]) := by kernel_rfl
theorem w39_10 (x : Nine) (o d us : List Int) (T : Tr) (Q : Fl → Loc → Prop) (X : XE) : wpB SL ((b39.drop 10).take 1) (d39 ns x o d T [("usual", .mu (iL us))]) Q X = sWrite [i10.tr] (fun t => byW (us.map Tr.int) fun ns' => cmpW .NotEq t (.bytes ns') fun c => ifW c (Q (.ret (.bool false)) (d39 ns x o d T [("usual", .mu (iL us))])) (Q .next (d39 ns x o d T [("usual", .mu (iL us))]))) (fun C y => X C y (d39 ns x o d T [("usual", .mu (iL us))])) := by kernel_rfl
theorem w39_11 (x : Nine) (o d us : List Int) (T0 T1 : Tr) (Q : Fl → Loc → Prop) (X : XE) : wpB SL ((b39.drop 11).take 1) (d39 ns x o d (.tup [T0, T1]) [("usual", .mu (iL us))]) Q X = (0 ≤ (0 : Int) ∧ (0 : Int) < big ∧ ∃ t, some T0 = some t ∧ cmpW .Eq t (.str "") fun c => ifW c (0 ≤ (1 : Int) ∧ (1 : Int) < big ∧ ∃ t, some T1 = some t ∧ listW t fun u => Q .next (d39 ns x o d (.tup [T0, T1]) [("usual", .mu (iL us)), ("written", .val u)])) (Q .next (d39 ns x o d (.tup [T0, T1]) [("usual", .mu (iL us)), ("written", .val (.list []))]))) := by kernel_rfl
theorem w39_12 (A C D E F : Slot) (W : Tr) (Q : Fl → Loc → Prop) (X : XE) : wpB SL ((b39.drop 12).take 1) (l39 ns A C D E F (.val W) []) Q X = ∃ ns1 : List Int, ns.map Tr.int = ns1.map Tr.int ∧ ns1.length ≤ 1000 ∧ ∀ ks, oct ks → ks.length ≤ 100 → 2 ≤ big ∧ ForK SL (forTg (stAt 39 12)) bb39 [W, .list (ks.map Tr.int)] (l39 ns A C D E F (.val W) []) (idQ Q) := by kernel_rfl
theorem w39_13 (A C D E F H : Slot) (z : Loc) (Q : Fl → Loc → Prop) (X : XE) : wpB SL (b39.drop 13) (l39 ns A C D E F H z) Q X = ∃ ns1 : List Int, ns.map Tr.int = ns1.map Tr.int ∧ ns1.length ≤ 1000 ∧ Q (.ret (.bool true)) (l39 ns A C D E F H z) := by kernel_rfl

noncomputable abbrev z3 (wy sd : Tr) (td : Slot) : Loc := [("why", .val wy), ("said", .val sd), ("told", td)]
noncomputable abbrev z4 (wy sd : Tr) (td rt : Slot) : Loc := [("why", .val wy), ("said", .val sd), ("told", td), ("right", rt)]
/-- the loop over both rows of octets, and the end -/
theorem tail39 (A C D E F : Slot) {W : List Int} (hn : ns.length ≤ 1000) (hW : oct W) (hWl : W.length ≤ 1000) : wpB SL (b39.drop 12) (l39 ns A C D E F (.val (iL W)) []) (endQ fun t => t = .bool true) (fun _ _ _ => False) := by
  refine cut1 12 (use (w39_12 ns A C D E F (iL W) _ _) ⟨ns, rfl, hn, fun ks hk hkl => ⟨by decide +kernel, forK_of (σ := Loc) (fun i z => (i = 0 → z = []) ∧ (i = 1 → (∃ wy sd td, z = z3 wy sd td) ∨ ∃ wy sd td rt, z = z4 wy sd td rt)) (fun z => l39 ns A C D E F (.val (iL W)) z) [] rfl ⟨fun _ => rfl, fun q => (nomatch q)⟩ (fun i x z hx hz => ?_) fun z hz => ?_⟩⟩)
  · match i, hx with
    | 0, hx =>
      cases hx
      rw [hz.1 rfl]
      exact turn_of (l39 ns A C D E F (.val (iL W)) [("octets", .val (iL W))]) (by kernel_rfl) tb_eq (turn39a ns A C D E F (.val (iL W)) W hW hWl (fun wy sd td => ⟨_, rfl, fun q => (nomatch q), fun _ => .inl ⟨wy, sd, td, rfl⟩⟩) fun wy sd td rt => ⟨_, rfl, fun q => (nomatch q), fun _ => .inr ⟨wy, sd, td, rt, rfl⟩⟩)
    | 1, hx =>
      cases hx
      have lst : ∀ z' : Loc, ∃ s' : Loc, l39 ns A C D E F (.val (iL W)) z' = l39 ns A C D E F (.val (iL W)) s' ∧ ((1 + 1 : Nat) = 0 → s' = []) ∧ ((1 + 1 : Nat) = 1 → (∃ wy sd td, s' = z3 wy sd td) ∨ ∃ wy sd td rt, s' = z4 wy sd td rt) := fun z' => ⟨z', rfl, fun q => (nomatch q), fun q => (nomatch q)⟩
      rcases hz.2 rfl with ⟨wy, sd, td, rfl⟩ | ⟨wy, sd, td, rt, rfl⟩
      · exact turn_of (l39 ns A C D E F (.val (iL W)) [("why", .val wy), ("said", .val sd), ("told", td), ("octets", .val (iL ks))]) (by kernel_rfl) tb_eq (turn39b ns A C D E F (.val (iL W)) ks (.val wy) (.val sd) td hk (by lia) (fun _ _ _ => lst _) fun _ _ _ _ => lst _)
      · exact turn_of (l39 ns A C D E F (.val (iL W)) [("why", .val wy), ("said", .val sd), ("told", td), ("right", rt), ("octets", .val (iL ks))]) (by kernel_rfl) tb_eq (turn39c ns A C D E F (.val (iL W)) ks (.val wy) (.val sd) td rt hk (by lia) (fun _ _ _ => lst _) fun _ _ _ _ => lst _)
    | n + 2, hx => simp at hx
  · exact use (w39_13 ns A C D E F _ z _ _) ⟨ns, rfl, hn, rfl⟩
theorem x10_fits : x10.fits := by decide
/-- the law answers True -/
theorem law_wp (hn : ns.length ≤ 63) (hb : ∀ x ∈ ns, Builtin.Int.intBits x ≤ 1048576) : wpB SL b39 [("script", .val (iL ns))] (endQ fun t => t = .bool true) (fun _ _ _ => False) := by
  have hl : ns.length ≤ 1000 := by lia
  refine (show wpB SL (b39.drop 0) _ _ _ from cut1 0 (use (w39_0 ns _ _) (p32W_of (fldW_of hl (by decide) (by decide) (p32W_of (p32W_of (fldW_of hl (by decide) (by decide) ?_)))))))
  generalize fld ns (0 : Int).toNat 2130706433 (2 ^ 32) = a
  generalize fld ns (1 : Int).toNat (2 ^ 32 - 2) (2 ^ 32) = b
  refine cut1 1 (use (w39_1 ns _ _ _ _) (fldW_of hl (by decide) (by decide) (fldW_of hl (by decide) (by decide) ⟨by decide +kernel, ?_⟩)))
  generalize fld ns (2 : Int).toNat 17 256 = c
  generalize fld ns (3 : Int).toNat 64 256 = d
  refine cut1 2 (use (w39_2 ns _ _ _ _ _ _) (fldW_of hl (by decide) (by decide) (fldW_of hl (by decide) (by decide) ⟨by decide +kernel, ?_⟩)))
  have sf : small (fld ns (5 : Int).toNat 3 8) := small_fld hb _ _ _ (by decide) (by decide)
  have sh : small (fld ns (7 : Int).toNat 10 64) := small_fld hb _ _ _ (by decide) (by decide)
  generalize fld ns (4 : Int).toNat 4660 65536 = e
  generalize fld ns (5 : Int).toNat 3 8 = f at *
  refine cut1 3 (use (w39_3 ns _ _ _ _ _ _ _ _) (fldW_of hl (by decide) (by decide) ⟨IntMulOk.of_left (by decide +kernel), fldW_of hl (by decide) (by decide) (fldW_of hl (by decide) (by decide) ⟨by decide +kernel, ?_⟩)⟩))
  generalize fld ns (7 : Int).toNat 10 64 = h at *
  generalize fld ns (8 : Int).toNat 1 4 = i
  -- from here on with any place
  have rest : ∀ g : Int, wpB SL (b39.drop 5) (f39 ns [.int a, .int b, .int c, .int d, .int e, .int f, .int g, .int h, .int i]) (endQ fun t => t = .bool true) (fun _ _ _ => False) := fun g => by
    generalize hx : (⟨a, b, c, d, e, f, g, h, i⟩ : Nine) = x
    have ex : [Tr.int a, .int b, .int c, .int d, .int e, .int f, .int g, .int h, .int i] = [Tr.int x.a, .int x.b, .int x.c, .int x.d, .int x.e, .int x.f, .int x.g, .int x.h, .int x.i] := by rw [← hx]
    have s1 : small x.h := by rw [← hx]; exact sh
    have s2 : small x.f := by rw [← hx]; exact sf
    rw [ex]
    clear ex hx
    refine cut1 5 (use (w39_5 ns _ _ _) (digW_of hl (by decide) (digW_of hl (by decide) ⟨by decide, someW_of (by lia) (by lia) fun o ho hol => ?_⟩)))
    have hol' : o.length ≤ 44 := by lia
    refine cut1 6 (use (w39_6 ns _ o _ _) (digW_of hl (by decide) (digW_of hl (by decide) ⟨by decide, someW_of (by lia) (by lia) fun k hk hkl => ?_⟩)))
    have hkl' : k.length ≤ 8 := by lia
    refine cut1 7 (use (w39_7 ns x o k _ _) ⟨o, k, rfl, rfl, ho, hk, by lia, by lia, ?_⟩)
    show wpB SL (b39.drop 8) (d39 ns x o k (wantT x o k) []) _ _
    refine cut1 8 (use (w39_8 ns x o k _ _ _) ⟨o, k, rfl, rfl, ho, hk, by lia, by lia, s1, s2, ne_want (x := x) ⟨fun q => (nomatch q), fun _ => ?_⟩⟩)
    obtain ⟨y, T, hT, hbytes⟩ := want_two x o k
    rw [hT]
    have hh := x10.headL_len [] 21
    have ho10 := x10.headL_oct [] 21
    refine cut1 9 (use (w39_9 ns x o k _ _ _) ⟨[], rfl, fun _ q => (nomatch q), by decide, by decide, x10_fits, ?_, ?_⟩)
    · rw [List.length_map]
      show (x10.headL [] 21).length + 1 ≤ big
      rw [hh]; decide +kernel
    have eu : (x10.headL (pad []) 21).map Tr.int ++ [.int 7] = (x10.headL [] 21 ++ [7]).map Tr.int := by rw [List.map_append]; rfl
    rw [eu]
    clear eu
    show wpB SL (b39.drop 10) (d39 ns x o k (.tup [.str y, T]) [("usual", .mu (iL (x10.headL [] 21 ++ [7])))]) _ _
    · have hw : i10.written = x10.headL [] 21 ++ [7] := written_eq (x := x10) (o := []) (d := [7]) (fun _ q => nomatch q) (by decide) (by decide) (by decide) x10_fits
      have hus : oct (x10.headL [] 21 ++ [7]) := oct_append.mpr ⟨ho10, by unfold oct; decide⟩
      have hul : (x10.headL [] 21 ++ [7]).length ≤ 10000 := by rw [List.length_append, hh]; decide
      generalize hus' : x10.headL [] 21 ++ [7] = us at *
      clear hus'
      have f10 : i10.fits := (fits_iff (x := x10) [] [7] (by decide)).mpr x10_fits
      refine cut1 10 (use (w39_10 ns x o k us _ _ _) ⟨⟨by decide, by decide⟩, by unfold oct; decide, fun _ q => (nomatch q), by unfold small; decide +kernel, by unfold small; decide +kernel, fun q => absurd q (by decide), fun _ q => absurd q (fun q => (by decide : ¬ x10.odd) ((odd_iff x10 [] [7]).mp q)), fun _ _ q => absurd f10 q, fun _ _ _ => byW_of hus hul ?_⟩)
      show cmpW .NotEq (.bytes i10.written) (.bytes us) _
      rw [hw]
      refine ne_bytes ⟨fun q => (nomatch q), fun _ => ?_⟩
      refine cut1 11 (use (w39_11 ns x o k us _ _ _ _) ⟨by decide, by decide +kernel, _, rfl, fun q => ⟨by decide, by decide +kernel, _, rfl, ?_⟩, fun _ => ?_⟩)
      · obtain ⟨W, rfl, hW, hWl⟩ := hbytes q ho hk (by lia) (by lia)
        exact ⟨by first | exact le_big (by assumption) | (rw [big_eq]; lia), tail39 ns _ _ _ _ _ hl hW hWl⟩
      · exact tail39 ns _ _ _ _ _ (W := []) hl (fun _ q => nomatch q) (by decide)
  refine cut1 4 (use (w39_4 ns _ _ _ _ _ _ _ _ _ _ _) (digW_of hl (by decide) ⟨by decide, fun _ => digW_of hl (by decide) ⟨by decide, by decide +kernel, rfl, by decide, (show (6 : Int) < ((9 : Nat) : Int) from by decide), by decide +kernel, rest _⟩, fun _ => rest _⟩))
end
end Mine
end
section
open PySem PySem.W PySem.Spec PySem.Calls PyProof.Rows
set_option Elab.async false
namespace Mine
set_option tactic.hygienic false
set_option maxRecDepth 100000
section
variable {prog : Program} {w : World} {K : Frag} {G G' : Wo} {h₀ : Heap} {n k : Nat} {l : Cals} {ex : PySem.Str → Option Addr} {cn : PySem.Str} {sc : Scope} {fa : Addr} {cd v : Value} {A : Around} {ll : List Env} {L : Addr} {f : PySem.Str} {sp : Spec}
/-- one more callee, known from the outermost frame alone -/
theorem addCall (H : FG prog w A cn sc L fa cd G' h₀ (EN h₀ ll L G'.hold) (sigOf ex l) (gvP K)) (hr : Room A n) (S : Stack A G' L ll) (hl : framesOf ll = [L]) (kG : G.Like G') (hf : gvP K f = some v) (hk : k ≤ n) (c : Contract1 prog w G h₀ k v sp) :
    FG prog w A cn sc L fa cd G' h₀ (EN h₀ ll L G'.hold) (sigOf ex ((f, .fn sp) :: l)) (gvP K) where
  E := {
    kind := H.E.kind
    hh := H.E.hh
    units := H.E.units
    name := H.E.name
    built := H.E.built
    keeper := H.E.keeper
    attr := H.E.attr
    call := fun {g sp'} hg => by
      by_cases e : g = f
      · subst e
        have : (sigOf ex ((g, .fn sp) :: l)).fn g = some sp := by simp only [sigOf, List.lookup_cons, beq_self_eq_true]
        rw [this] at hg
        cases hg
        exact ⟨v, hf, fun I d h q _ => c kG (hr.less hk) S hl I d h q⟩
      · have : (sigOf ex ((f, .fn sp) :: l)).fn g = (sigOf ex l).fn g := by simp only [sigOf, List.lookup_cons, beq_eq_false_iff_ne.mpr e]
        rw [this] at hg
        exact H.E.call hg }
  new := fun {g sp'} hn hg => by
    by_cases e : g = f
    · subst e
      have : (sigOf ex ((g, .fn sp) :: l)).new g = false := by simp only [sigOf, List.lookup_cons, beq_self_eq_true]
      rw [this] at hn
      cases hn
    · have e1 : (sigOf ex ((f, .fn sp) :: l)).fn g = (sigOf ex l).fn g := by simp only [sigOf, List.lookup_cons, beq_eq_false_iff_ne.mpr e]
      have e2 : (sigOf ex ((f, .fn sp) :: l)).new g = (sigOf ex l).new g := by simp only [sigOf, List.lookup_cons, beq_eq_false_iff_ne.mpr e]
      rw [e1] at hg
      rw [e2] at hn
      exact H.new hn hg
  mu := fun {g sp'} hg => by
    by_cases e : g = f
    · subst e
      have : (sigOf ex ((g, .fn sp) :: l)).mu g = none := by simp only [sigOf, List.lookup_cons, beq_self_eq_true]
      rw [this] at hg
      cases hg
    · have : (sigOf ex ((f, .fn sp) :: l)).mu g = (sigOf ex l).mu g := by simp only [sigOf, List.lookup_cons, beq_eq_false_iff_ne.mpr e]
      rw [this] at hg
      exact H.mu hg
  raise := H.raise
  seta := H.seta
  rng := H.rng
end
end Mine
end
section
open PySem PySem.W PySem.Spec PySem.Calls PyProof.Rows
set_option Elab.async false
namespace Mine
set_option tactic.hygienic false
set_option maxRecDepth 100000
set_option linter.unusedVariables false
theorem room39 : Room callerA 50 := ⟨by decide +kernel, by decide +kernel, rfl⟩
noncomputable abbrev sc39 : Scope := (fnAt 39).2.2
section
variable {w : World} {h₀ : Heap} (B : Base prg w (kf w.params) h₀)
include B in
theorem c_df2 : Contract prg w (g0 w.params) h₀ 2 (.ref 238) sDF2 :=
  Contract.weaken (sp := sDueFields) (sp' := sDF2) (c_dueFields B) fun ts Q X h => by
    replace h := oneL_of h
    obtain ⟨xs, rfl, h⟩ := h
    · obtain ⟨ks, rfl, ho, hl, h1, h2⟩ := h
      refine ⟨ks, rfl, ho, hl, ?_⟩
      unfold dueFT
      cases he : headR ks with
      | error e => exact h1 e he
      | ok p => exact h2 p.1 p.2 he
include B in
theorem cals39_ok : CalsOK prg w (kf w.params) (g0 w.params) h₀ 43 cals39 :=
  .fn (by kernel_rfl) (by decide) (c_field B) (.fn (by kernel_rfl) (by decide) (c_digit B) (.new (by kernel_rfl) (by decide) (c_some B) (.fn (by kernel_rfl) (by decide) (c_dueW B) (.fn (by kernel_rfl) (by decide) (c_hd B) (.fn (by kernel_rfl) (by decide) (c_write B) (.new (by kernel_rfl) (by decide) (c_ip B) (.fn (by kernel_rfl) (by decide) (c_any B) (.fn (by kernel_rfl) (by decide) (c_df2 B) (.fn (by kernel_rfl) (by decide) (c_look B) (.fn (by kernel_rfl) (by decide) (c_dueLook B) .nil))))))))))
end
/-- the law, run: it answers True -/
theorem law_runs {prog : Program} {w : World} {s₁ : Shared} {h₁ : Heap} {tk : Nat} {cn : PySem.Str} {sc : Scope} {fa a : Addr} {cdv : Value} {body : List Stmt} {m : PySem.Str → Option Value} {vs : List Value} {ns : List Int} {QQ : Flow → Shared → Prop} {EE : Value → Shared → Prop}
    (KX : (kf w.params).In s₁.heap) (T : ∃ p loose mg mb, TopRead p loose mg mb s₁.heap) (F : Fr s₁.heap s₁.heap.objs.size h₁ m) (hm : m "script" = some (.ref a)) (hL : s₁.heap.IsList a vs.toArray) (hI : IntsAre vs ns) (hlen : ns.length ≤ 63) (hb : ∀ x ∈ ns, Builtin.Int.intBits x ≤ 1048576)
    (hp : prog = prg) (hsc : sc = sc39) (hbd : body = b39) (hE : PassesOwn (model prog w) (callerA.deeper (envOf cn sc s₁.heap.objs.size fa cdv)) (envOf cn sc s₁.heap.objs.size fa cdv) EE)
    (post : ∀ h' tk' m', Fr s₁.heap s₁.heap.objs.size h' m' → QQ (.ret (.bool true)) { s₁ with heap := h', toks := tk' }) :
    wpAny (model prog w) (callerA.deeper (envOf cn sc s₁.heap.objs.size fa cdv)) (execs body (envOf cn sc s₁.heap.objs.size fa cdv)) QQ EE { s₁ with heap := h₁, toks := tk } := by
  subst hp hsc hbd
  have B : Base prg w (kf w.params) s₁.heap := ⟨KX, T⟩
  have hk : sc39.kind = .function := by kernel_rfl
  have S : Stack (callerA.deeper (envOf cn sc39 s₁.heap.objs.size fa cdv)) (g0 w.params) s₁.heap.objs.size [envOf cn sc39 s₁.heap.objs.size fa cdv] := ⟨rfl, ⟨_, [], rfl, rfl, rfl⟩, fun env he => by
    rw [List.mem_singleton.mp he]
    exact ⟨by show sc39.kind ≠ _; rw [hk]; decide, _, rfl⟩⟩
  have hl : framesOf [envOf cn sc39 s₁.heap.objs.size fa cdv] = [s₁.heap.objs.size] := rfl
  have hr : Room (callerA.deeper (envOf cn sc39 s₁.heap.objs.size fa cdv)) 43 := Room.deeper (room39.less (by decide)) _
  have kG : (g0 w.params).Like (g0 w.params) := ⟨rfl, rfl, rfl⟩
  have H0 := mkFG (lib B) exN_ok (cals39_ok B) (cn := cn) (fa := fa) (cd := cdv) hk hr S kG
  have H := addCall (addCall (addCall H0 hr S hl kG (f := "_law_written") (sp := sWritten) (by kernel_rfl) (by decide) (c_written B)) hr S hl kG (f := "_law_fields") (sp := sFields) (by kernel_rfl) (by decide) (c_fields B)) hr S hl kG (f := "_law_options_hold") (sp := sOHold) (by kernel_rfl) (by decide) (c_ohold B)
  have den : Den (g0 w.params) (PF s₁.heap []) (iL ns) (.ref a) := by
    obtain ⟨o, he, hc, n, hd⟩ := hL
    exact ⟨a, o, vs, rfl, .inl he, hc, ⟨n, hd⟩, DenL.of_ints hI⟩
  have I : Inv (g0 w.params) s₁.heap s₁.heap.objs.size h₁ m [] [] [] [] [("script", .val (iL ns))] :=
    ⟨F, fun p hp => (nomatch hp), ⟨.cons hm (.val den) .nil, by simp, List.nodup_nil, fun p hp => (nomatch hp), fun p hp => (nomatch hp)⟩, fun b hb => (nomatch hb), fun q hq => (nomatch hq), fun a ha => (nomatch ha), fun p hp => (nomatch hp)⟩
  refine soundB H b39 (kp := []) (s := { s₁ with heap := h₁, toks := tk }) (by kernel_rfl) (law_wp ns hlen hb) I hE (fun fl fv h' tk' m' own' fr' ρ' km J' f' r hq => ?_) fun m' e h' tk' own' fr' ρ' C y he hX => hX.elim
  cases r with
  | next => exact nomatch hq
  | cont => exact hq.elim
  | ret dv =>
    obtain rfl : _ = Tr.bool true := hq
    obtain rfl : _ = Value.bool true := dv
    exact post h' tk' m' J'.F
  | retm hl hm =>
    obtain rfl : _ = Tr.bool true := hq
    obtain ⟨own2, fr2, v, J2, hfr, hv, dv, _⟩ := J'.freeze hl
    rw [hm] at hv
    cases hv
    obtain rfl : _ = Value.bool true := dv
    exact post h' tk' m' J'.F
end Mine
end
open PySem PySem.W PyProof.Rows Mine
set_option maxRecDepth 100000 in
set_option maxHeartbeats 8000000 in
theorem PySem.Challenge.cw_pf0339_01_holds : PySem.Challenge.rw_pf0339_01.Holds := by
  w_on
  refine holds_law (by kernel_rfl) fun said => ?_
  refine holds_open (q := qv) (loose := lo) (Xt := fun s => xlAt qv [] s && recOk [] s) (XP := XL qv []) (Yf := Hook.obs hook) (Ya := Hook.val hook) (YP := Hook.says hook) (N := 4038) ?hl (Hook.of hook) (Hook.keeps hook) (fun s e => xl_of s (Bool.and_eq_true_iff.mp e).1) XL.keeps (by rfl) (by rfl) (by rfl) (fun s e => recFacts_of (Bool.and_eq_true_iff.mp e).2) (by rfl) (by first | assumption | decide +kernel) (by decide +kernel) ⟨rfl, rfl, rfl, rfl, rfl, by decide +kernel⟩ ?hw ?hc
  case hl => exact head
  case hw => w_witness2
  case hc =>
    intro w s₀ s₁ mg mb G Y fa o pm cd doc dV kV ho hd hcd hD hmg hg args vals as hpre hlay hrd hwl hlo
    have KX := kIn_of Y
    have X := (Ground.X G).1
    have V := (Ground.X G).2
    refine Ground.open G ?_
    intro T B D TE TW
    try (refine guard_noD D (by decide +kernel) ?_; clear D)
    obtain ⟨_, _, M⟩ := bmod_of_top T
    have TA := at_of_top T
    try (obtain ⟨_, _, he, B0⟩ := based_of_top T rfl hmg ho hd; have he' : cd = _ := he; subst he'; clear he)
    clear hmg
    wrow_args hpre hlay hrd hwl hlo
    refine enter_call ?_
    w_top on
    try refine codeAny_mono ?_ (fun _ _ g => GoodW.toG g)
    have K0 := below_caller (Top.heap T)
    w_call any ho hd hcd hD T F
    clear hd TA
    k_drop
    rename IntsAre _ _ => hI
    rename Fr _ _ _ _ => F
    rename Top _ _ _ _ _ _ => T
    rename Heap.IsList _ _ _ => hL
    rename (PyData.list (List.map PyData.int _)).layable0 = true => hLay
    rename ¬ _ => hlen
    refine law_runs KX ⟨_, _, _, _, topRead_of T⟩ F (by rfl) hL hI ?len (fun x hx => PyData.bits_item_of_ints hLay hx) ?hp ?hsc ?hbd PassesOwn.leaving ?post
    case len => omega
    case hp => kernel_rfl
    case hsc => kernel_rfl
    case hbd => kernel_rfl
    case post =>
      intro h' tk' m' F'
      kc_bool
      refine goodW_bool F' hg (raisesW_false ?_) ?_
      · wrow_none_raised
      · kc_post
