import PyProof.Rows.All
import Wide.All
import OpenK.AllK
import Wide.FinOn
import HandS.ForMost
import HandS.Walk
import HandS.Evl
import HandS.Exc
import HandS.IsInst
import HandS.Flow
import HandS.Deep
import HandS.Dict
import HandS.TupAny
import HandS.Style
import KE.GoesEnum
import HandS.Small
import HandS.WordsExc
import HandS.TryMany
import HandS.TupMul
import HandS.Wide
import HandS.WideBits
import HandS.TupLe
import HandS.SortInts
import HandS.More
import HandS.EndBits
import HandS.ForExc
import PyProof.ExcBaseAll.ValueError
import PySem.Challenge.RW_twocounters_k54_loops_and_gaps
set_option Elab.async false
set_option linter.all false
set_option maxRecDepth 100000
set_option maxHeartbeats 1000000
/-! the value layer: data D, a store of owned lists and dicts, readings that follow a plain function -/
namespace MD
open PySem PySem.Spec PyProof.Rows L2

inductive D where
  | non | bl (b : Bool) | int (i : Int) | str (s : Str) | tup (l : List D) | lst (l : List D) | scr (l : List D) | ref (n : Nat) | ty (n : String) | adr (a : Addr)
inductive O where
  | lst (l : List D)
  | dic (l : List (Key × D))
  | dlk (l : List (Key × D))
abbrev Store := List O
abbrev Env := List (Option D)
/-- an exception: of a class of the text; with the fields of its own dict -/
inductive XV where
  | own (C : Addr) | fld (C : Addr) (l : List (Str × D))
/-- what comes of a piece of code: nothing told, a value, an exception -/
inductive Out (α : Type) where
  | none | some (a : α) | err (x : XV) (S : Store)
abbrev M (α : Type) := Env → Store → Out (α × Store)

mutual
def Rep (K : W.Frag) (G : Hp) (ρ : List Addr) : D → V → Prop
  | .non, v => v = .non
  | .bl b, v => v = .bl b
  | .int i, v => v = .int i
  | .str s, v => v = .str s
  | .tup l, v => ∃ a vs, v = .ref a ∧ SqT K G a vs ∧ Reps K G ρ l vs
  | .lst l, v => ∃ a vs, v = .ref a ∧ G a = some (.lst vs) ∧ Reps K G ρ l vs
  | .scr l, v => ∃ a vs, v = .ref a ∧ SqL K G a vs ∧ Reps K G ρ l vs
  | .ref n, v => ∃ a, v = .ref a ∧ ρ[n]? = some a
  | .ty n, v => v = .ty n
  | .adr a, v => v = .ref a
def Reps (K : W.Frag) (G : Hp) (ρ : List Addr) : List D → List V → Prop
  | [], vs => vs = []
  | d :: ds, vs => ∃ v r, vs = v :: r ∧ Rep K G ρ d v ∧ Reps K G ρ ds r
end

def GLe (G G' : Hp) : Prop := ∀ a o, G a = some o → G' a = some o
theorem GLe.refl (G : Hp) : GLe G G := fun _ _ h => h
theorem GLe.trans {G G1 G2 : Hp} (a : GLe G G1) (b : GLe G1 G2) : GLe G G2 := fun c o h => b c o (a c o h)
theorem GLe.rd {G G' : Hp} {a : Addr} {u : HO} (e : GLe G G') (h : Rd G a u) : Rd G' a u := by
  rcases h with h | ⟨o, h⟩
  · exact .inl (e _ _ h)
  · exact .inr ⟨o, e _ _ h⟩
theorem GLe.sqt {K : W.Frag} {G G' : Hp} {a : Addr} {vs : List V} (e : GLe G G') (h : SqT K G a vs) : SqT K G' a vs := by
  rcases h with h | h
  · exact .inl (e.rd h)
  · exact .inr h
theorem GLe.sql {K : W.Frag} {G G' : Hp} {a : Addr} {vs : List V} (e : GLe G G') (h : SqL K G a vs) : SqL K G' a vs := by
  rcases h with h | h
  · exact .inl (e.rd h)
  · exact .inr h
theorem GLe.upd {G : Hp} {p : Addr} {o : HO} (h : G p = none) : GLe G (upd G p o) := fun a u e => by
  rw [upd_ne (ne_of_none e h)]
  exact e

def PLe (ρ ρ' : List Addr) : Prop := ∀ (n : Nat) a, ρ[n]? = some a → ρ'[n]? = some a
theorem PLe.refl (ρ : List Addr) : PLe ρ ρ := fun _ _ h => h
theorem PLe.trans {a b c : List Addr} (x : PLe a b) (y : PLe b c) : PLe a c := fun n q h => y n q (x n q h)
theorem PLe.app (ρ new : List Addr) : PLe ρ (ρ ++ new) := fun n a h => by
  rw [List.getElem?_append_left (List.getElem?_eq_some_iff.mp h).1]
  exact h

mutual
theorem Rep.mono {K : W.Frag} {G G' : Hp} {ρ ρ' : List Addr} (g : GLe G G') (p : PLe ρ ρ') : ∀ (d : D) (v : V), Rep K G ρ d v → Rep K G' ρ' d v
  | .non, v, h => h
  | .bl b, v, h => h
  | .int i, v, h => h
  | .str s, v, h => h
  | .tup l, v, h => by
    obtain ⟨a, vs, e, h1, h2⟩ := h
    exact ⟨a, vs, e, g.sqt h1, Reps.mono g p l vs h2⟩
  | .lst l, v, h => by
    obtain ⟨a, vs, e, h1, h2⟩ := h
    exact ⟨a, vs, e, g _ _ h1, Reps.mono g p l vs h2⟩
  | .scr l, v, h => by
    obtain ⟨a, vs, e, h1, h2⟩ := h
    exact ⟨a, vs, e, g.sql h1, Reps.mono g p l vs h2⟩
  | .ref n, v, h => by
    obtain ⟨a, e, h1⟩ := h
    exact ⟨a, e, p n a h1⟩
  | .ty n, v, h => h
  | .adr a, v, h => h
theorem Reps.mono {K : W.Frag} {G G' : Hp} {ρ ρ' : List Addr} (g : GLe G G') (p : PLe ρ ρ') : ∀ (ds : List D) (vs : List V), Reps K G ρ ds vs → Reps K G' ρ' ds vs
  | [], vs, h => h
  | d :: ds, vs, h => by
    obtain ⟨v, r, e, h1, h2⟩ := h
    exact ⟨v, r, e, Rep.mono g p d v h1, Reps.mono g p ds r h2⟩
end
section
variable {K : W.Frag} {G G' H H' H1 : Hp} {ρ ρ' : List Addr}
theorem Reps.length : ∀ {ds : List D} {vs : List V}, Reps K G ρ ds vs → ds.length = vs.length
  | [], vs, h => by
    have h : vs = [] := h
    rw [h]
    rfl
  | d :: ds, vs, h => by
    obtain ⟨v, r, e, h1, h2⟩ := h
    rw [e, List.length_cons, List.length_cons, Reps.length h2]
theorem Reps.get : ∀ {ds : List D} {vs : List V} {i : Nat} {d : D}, Reps K G ρ ds vs → ds[i]? = some d → ∃ v, vs[i]? = some v ∧ Rep K G ρ d v
  | [], vs, i, d, h, e => by cases e
  | x :: ds, vs, 0, d, h, e => by
    obtain ⟨v, r, e1, h1, h2⟩ := h
    have e2 : x = d := Option.some.inj e
    rw [e1, ← e2]
    exact ⟨v, rfl, h1⟩
  | x :: ds, vs, i + 1, d, h, e => by
    obtain ⟨v, r, e1, h1, h2⟩ := h
    obtain ⟨w, e3, h3⟩ := Reps.get (i := i) h2 (by simpa using e)
    rw [e1]
    exact ⟨w, by simpa using e3, h3⟩
theorem Reps.getV : ∀ {ds : List D} {vs : List V} {i : Nat} {v : V}, Reps K G ρ ds vs → vs[i]? = some v → ∃ d, ds[i]? = some d ∧ Rep K G ρ d v := fun {ds vs i v} h e => by
  have h1 : i < vs.length := (List.getElem?_eq_some_iff.mp e).1
  have h2 : i < ds.length := by rw [h.length]; exact h1
  obtain ⟨w, e2, h3⟩ := h.get (List.getElem?_eq_getElem h2)
  rw [e] at e2
  exact ⟨_, List.getElem?_eq_getElem h2, by rw [Option.some.inj e2]; exact h3⟩
theorem Reps.append : ∀ {ds es : List D} {vs ws : List V}, Reps K G ρ ds vs → Reps K G ρ es ws → Reps K G ρ (ds ++ es) (vs ++ ws)
  | [], es, vs, ws, h, q => by
    have h : vs = [] := h
    rw [h]
    exact q
  | d :: ds, es, vs, ws, h, q => by
    obtain ⟨v, r, e, h1, h2⟩ := h
    rw [e]
    exact ⟨v, r ++ ws, rfl, h1, Reps.append h2 q⟩
theorem Reps.one {d : D} {v : V} (h : Rep K G ρ d v) : Reps K G ρ [d] [v] := ⟨v, [], rfl, h, rfl⟩
theorem Reps.drop : ∀ {ds : List D} {vs : List V} (n : Nat), Reps K G ρ ds vs → Reps K G ρ (ds.drop n) (vs.drop n)
  | ds, vs, 0, h => h
  | [], vs, n + 1, h => by
    have h : vs = [] := h
    rw [h]
    exact rfl
  | d :: ds, vs, n + 1, h => by
    obtain ⟨v, r, e, h1, h2⟩ := h
    rw [e]
    exact Reps.drop n h2
theorem Reps.take : ∀ {ds : List D} {vs : List V} (n : Nat), Reps K G ρ ds vs → Reps K G ρ (ds.take n) (vs.take n)
  | ds, vs, 0, h => by
    rw [List.take_zero, List.take_zero]
    exact rfl
  | [], vs, n + 1, h => by
    have h : vs = [] := h
    rw [h]
    exact rfl
  | d :: ds, vs, n + 1, h => by
    obtain ⟨v, r, e, h1, h2⟩ := h
    rw [e]
    exact ⟨v, r.take n, rfl, h1, Reps.take n h2⟩
theorem Reps.set : ∀ {ds : List D} {vs : List V} {d : D} {v : V} (n : Nat), Reps K G ρ ds vs → Rep K G ρ d v → Reps K G ρ (ds.set n d) (vs.set n v)
  | [], vs, d, v, n, h, q => by
    have h : vs = [] := h
    rw [h]
    exact rfl
  | x :: ds, vs, d, v, 0, h, q => by
    obtain ⟨w, r, e, h1, h2⟩ := h
    rw [e]
    exact ⟨v, r, rfl, q, h2⟩
  | x :: ds, vs, d, v, n + 1, h, q => by
    obtain ⟨w, r, e, h1, h2⟩ := h
    rw [e]
    exact ⟨w, r.set n v, rfl, h1, Reps.set n h2 q⟩
theorem Reps.nil_iff {ds : List D} {vs : List V} (h : Reps K G ρ ds vs) : ds = [] ↔ vs = [] := by
  have e := h.length
  cases ds <;> cases vs <;> simp_all
end

/-! ### the store -/
abbrev KRep (K : W.Frag) (G : Hp) (ρ : List Addr) : List (Key × D) → List (Key × V) → Prop := Paired fun p q => p.1 = q.1 ∧ Rep K G ρ p.2 q.2
theorem KRep.mono {K : W.Frag} {G G' : Hp} {ρ ρ' : List Addr} (g : GLe G G') (p : PLe ρ ρ') {l : List (Key × D)} {m : List (Key × V)} (h : KRep K G ρ l m) : KRep K G' ρ' l m :=
  Paired.mapP h fun _ _ q => ⟨q.1, Rep.mono g p _ _ q.2⟩
def RO (K : W.Frag) (G : Hp) (ρ : List Addr) (H : Hp) : O → Addr → Prop
  | .lst l, a => ∃ vs, H a = some (.lst vs) ∧ Reps K G ρ l vs
  | .dic l, a => ∃ kvs, H a = some (.dK kvs) ∧ KRep K G ρ l kvs
  | .dlk l, a => ∃ kvs, (∃ o, H a = some (.frz o (.dK kvs))) ∧ KRep K G ρ l kvs
theorem RO.some {K : W.Frag} {G H : Hp} {ρ : List Addr} : ∀ {o : O} {a : Addr}, RO K G ρ H o a → ∃ u, H a = some u
  | .lst l, a, ⟨vs, h, _⟩ => ⟨_, h⟩
  | .dic l, a, ⟨vs, h, _⟩ => ⟨_, h⟩
  | .dlk l, a, ⟨vs, ⟨o, h⟩, _⟩ => ⟨_, h⟩
theorem RO.mono {K : W.Frag} {G G' H H' : Hp} {ρ ρ' : List Addr} (g : GLe G G') (p : PLe ρ ρ') : ∀ {o : O} {a : Addr}, RO K G ρ H o a → H' a = H a → RO K G' ρ' H' o a
  | .lst l, a, ⟨vs, h, q⟩, e => ⟨vs, by rw [e]; exact h, Reps.mono g p _ _ q⟩
  | .dic l, a, ⟨vs, h, q⟩, e => ⟨vs, by rw [e]; exact h, KRep.mono g p q⟩
  | .dlk l, a, ⟨vs, ⟨o, h⟩, q⟩, e => ⟨vs, ⟨o, by rw [e]; exact h⟩, KRep.mono g p q⟩
structure RS (K : W.Frag) (G H : Hp) (ρ : List Addr) (S : Store) : Prop where
  len : ρ.length = S.length
  nd : ρ.Nodup
  sub : GLe G H
  out : ∀ a ∈ ρ, G a = none
  obj : ∀ (n : Nat) o a, S[n]? = some o → ρ[n]? = some a → RO K G ρ H o a
/-- what a piece of code leaves: the frozen part G grows, what is neither frozen nor owned stays -/
structure Go (G H : Hp) (ρ : List Addr) (G' H' : Hp) (ρ' : List Addr) : Prop where
  gr : GLe G G'
  pl : PLe ρ ρ'
  nw : ∀ a ∈ ρ', a ∈ ρ ∨ H a = none
  fr : ∀ a o, H a = some o → a ∉ ρ → H' a = some o
  hid : ∀ a o, H a = some o → a ∉ ρ → G a = none → G' a = none
  tr : ∀ a, H' a = none → H a = none
  fz : ∀ a o u, H a = some (.frz o u) → H' a = some (.frz o u)
section
variable {K : W.Frag} {G G' G'' H H' H'' : Hp} {ρ ρ' ρ'' : List Addr} {S : Store}
theorem Go.refl : Go G H ρ G H ρ := ⟨GLe.refl G, PLe.refl ρ, fun _ h => .inl h, fun _ _ h _ => h, fun _ _ _ _ h => h, fun _ h => h, fun _ _ _ h => h⟩
theorem Go.trans (a : Go G H ρ G' H' ρ') (b : Go G' H' ρ' G'' H'' ρ'') : Go G H ρ G'' H'' ρ'' where
  gr := a.gr.trans b.gr
  pl := a.pl.trans b.pl
  nw := fun x h => by
    rcases b.nw x h with h | h
    · exact a.nw x h
    · exact .inr (a.tr x h)
  fr := fun x o h hx => b.fr x o (a.fr x o h hx) fun h2 => by
    rcases a.nw x h2 with h3 | h3
    · exact hx h3
    · rw [h] at h3; cases h3
  hid := fun x o h hx hg => b.hid x o (a.fr x o h hx) (fun h2 => by
    rcases a.nw x h2 with h3 | h3
    · exact hx h3
    · rw [h] at h3; cases h3) (a.hid x o h hx hg)
  tr := fun x h => a.tr x (b.tr x h)
  fz := fun x o u h => b.fz x o u (a.fz x o u h)
theorem RS.none_of (rs : RS K G H ρ S) {p : Addr} (h : H p = none) : G p = none := by
  cases e : G p with
  | none => rfl
  | some o => rw [rs.sub p o e] at h; cases h
theorem RS.at (rs : RS K G H ρ S) {n : Nat} {o : O} (h : S[n]? = some o) : ∃ a, ρ[n]? = some a ∧ RO K G ρ H o a := by
  have h1 : n < S.length := (List.getElem?_eq_some_iff.mp h).1
  have h2 : n < ρ.length := by rw [rs.len]; exact h1
  exact ⟨ρ[n], List.getElem?_eq_getElem h2, rs.obj n o _ h (List.getElem?_eq_getElem h2)⟩
theorem RS.there (rs : RS K G H ρ S) {a : Addr} (h : a ∈ ρ) : ∃ u, H a = some u := by
  obtain ⟨n, hn, e⟩ := List.mem_iff_getElem.mp h
  have h2 : n < S.length := by rw [← rs.len]; exact hn
  exact (rs.obj n S[n] a (List.getElem?_eq_getElem h2) (by rw [List.getElem?_eq_getElem hn, e])).some
theorem RS.free (rs : RS K G H ρ S) {p : Addr} (h : H p = none) : p ∉ ρ := fun hp => by
  obtain ⟨u, e⟩ := rs.there hp
  rw [h] at e; cases e
/-- a new object, frozen -/
theorem Go.new {p : Addr} (hp : H p = none) (hg : G p = none) (o : HO) : Go G H ρ (upd G p o) (upd H p o) ρ where
  gr := GLe.upd hg
  pl := PLe.refl ρ
  nw := fun _ h => .inl h
  fr := fun a u e _ => by rw [upd_ne (ne_of_none e hp)]; exact e
  hid := fun a u e _ g => by rw [upd_ne (ne_of_none e hp)]; exact g
  fz := fun a o' u e => by rw [upd_ne (ne_of_none e hp)]; exact e
  tr := fun a e => by
    by_cases h : a = p
    · rw [h]; exact hp
    · rw [upd_ne h] at e; exact e
/-- a new object, in nobody's hands yet -/
theorem Go.hide {p : Addr} (hp : H p = none) (o : HO) : Go G H ρ G (upd H p o) ρ where
  gr := GLe.refl G
  pl := PLe.refl ρ
  nw := fun _ h => .inl h
  fr := fun a u e _ => by rw [upd_ne (ne_of_none e hp)]; exact e
  hid := fun a u e _ g => g
  fz := fun a o' u e => by rw [upd_ne (ne_of_none e hp)]; exact e
  tr := fun a e => by
    by_cases h : a = p
    · rw [h]; exact hp
    · rw [upd_ne h] at e; exact e
theorem RS.new (rs : RS K G H ρ S) {p : Addr} (hp : H p = none) (o : HO) : RS K (upd G p o) (upd H p o) ρ S where
  len := rs.len
  nd := rs.nd
  sub := fun a u e => by
    by_cases h : a = p
    · subst h
      rw [upd_same] at e ⊢
      exact e
    · rw [upd_ne h] at e ⊢
      exact rs.sub a u e
  out := fun a ha => by
    obtain ⟨u, e⟩ := rs.there ha
    rw [upd_ne (ne_of_none e hp)]
    exact rs.out a ha
  obj := fun n u a h1 h2 => (rs.obj n u a h1 h2).mono (GLe.upd (rs.none_of hp)) (PLe.refl ρ) (by
    obtain ⟨w, e⟩ := (rs.obj n u a h1 h2).some
    exact upd_ne (ne_of_none e hp))
theorem RS.hide (rs : RS K G H ρ S) {p : Addr} (hp : H p = none) (o : HO) : RS K G (upd H p o) ρ S where
  len := rs.len
  nd := rs.nd
  sub := rs.sub.trans (GLe.upd hp)
  out := rs.out
  obj := fun n u a h1 h2 => (rs.obj n u a h1 h2).mono (GLe.refl G) (PLe.refl ρ) (by
    obtain ⟨w, e⟩ := (rs.obj n u a h1 h2).some
    exact upd_ne (ne_of_none e hp))
/-- a new object, owned -/
theorem Go.own {p : Addr} (hp : H p = none) (o : HO) : Go G H ρ G (upd H p o) (ρ ++ [p]) where
  gr := GLe.refl G
  pl := PLe.app ρ [p]
  nw := fun a h => by
    rcases List.mem_append.mp h with h | h
    · exact .inl h
    · rw [List.mem_singleton.mp h]; exact .inr hp
  fr := fun a u e _ => by rw [upd_ne (ne_of_none e hp)]; exact e
  hid := fun a u e _ g => g
  fz := fun a o' u e => by rw [upd_ne (ne_of_none e hp)]; exact e
  tr := (Go.hide (G := G) (ρ := ρ) hp o).tr
theorem RS.own (rs : RS K G H ρ S) {p : Addr} (hp : H p = none) {u : HO} {o : O} (h : RO K G (ρ ++ [p]) (upd H p u) o p) : RS K G (upd H p u) (ρ ++ [p]) (S ++ [o]) where
  len := by rw [List.length_append, List.length_append, rs.len]; rfl
  nd := by
    rw [List.nodup_append]
    refine ⟨rs.nd, by simp, fun a ha b hb => ?_⟩
    rw [List.mem_singleton.mp hb]
    rintro rfl
    exact rs.free hp ha
  sub := rs.sub.trans (GLe.upd hp)
  out := fun a ha => by
    rcases List.mem_append.mp ha with ha | ha
    · exact rs.out a ha
    · rw [List.mem_singleton.mp ha]; exact rs.none_of hp
  obj := fun n w a h1 h2 => by
    by_cases hn : n < S.length
    · rw [List.getElem?_append_left hn] at h1
      rw [List.getElem?_append_left (by rw [rs.len]; exact hn)] at h2
      refine (rs.obj n w a h1 h2).mono (GLe.refl G) (PLe.app ρ [p]) ?_
      obtain ⟨x, e⟩ := (rs.obj n w a h1 h2).some
      exact upd_ne (ne_of_none e hp)
    · have e1 : n = S.length := by
        have := (List.getElem?_eq_some_iff.mp h1).1
        rw [List.length_append, List.length_singleton] at this
        omega
      subst e1
      rw [List.getElem?_append_right (Nat.le_refl _), Nat.sub_self] at h1
      rw [← rs.len, List.getElem?_append_right (Nat.le_refl _), Nat.sub_self] at h2
      have e2 : o = w := Option.some.inj h1
      have e3 : p = a := Option.some.inj h2
      rw [← e2, ← e3]
      exact h
/-- an owned object, written -/
theorem Go.put {a : Addr} (ha : a ∈ ρ) (hf : ∀ o' u, H a ≠ some (.frz o' u)) (o : HO) : Go G H ρ G (upd H a o) ρ where
  fz := fun b o' u e => by
    rw [upd_ne fun z => ?_]
    · exact e
    · rw [z] at e
      exact hf o' u e
  gr := GLe.refl G
  pl := PLe.refl ρ
  nw := fun _ h => .inl h
  fr := fun b u e hb => by rw [upd_ne (fun z => hb (by rw [z]; exact ha))]; exact e
  hid := fun _ _ _ _ g => g
  tr := fun b e => by
    by_cases h : b = a
    · rw [h, upd_same] at e; cases e
    · rw [upd_ne h] at e; exact e
theorem RS.put (rs : RS K G H ρ S) {n : Nat} {a : Addr} (hn : ρ[n]? = some a) {u : HO} {o : O} (h : RO K G ρ (upd H a u) o a) : RS K G (upd H a u) ρ (S.set n o) where
  len := by rw [List.length_set]; exact rs.len
  nd := rs.nd
  sub := fun b w e => by
    have hb : b ≠ a := fun z => by
      rw [z, rs.out a (List.mem_of_getElem? hn)] at e; cases e
    rw [upd_ne hb]
    exact rs.sub b w e
  out := rs.out
  obj := fun m w b h1 h2 => by
    by_cases hm : n = m
    · subst hm
      have hl : n < S.length := by rw [← rs.len]; exact (List.getElem?_eq_some_iff.mp hn).1
      rw [List.getElem?_set_self hl] at h1
      rw [hn] at h2
      rw [← Option.some.inj h1, ← Option.some.inj h2]
      exact h
    · rw [List.getElem?_set_ne hm] at h1
      refine (rs.obj m w b h1 h2).mono (GLe.refl G) (PLe.refl ρ) (upd_ne fun z => hm ?_)
      rw [z] at h2
      exact nd_ix rs.nd hn h2
end

/-! ### slots -/
structure EnvR (K : W.Frag) (G : Hp) (ρ : List Addr) (e : Env) (σ : L2.St) : Prop where
  len : e.length = σ.length
  sl : ∀ (i : Nat) (d : D), e[i]? = some (some d) → ∃ v, σ[i]? = some (some v) ∧ Rep K G ρ d v
section
variable {K : W.Frag} {G G' H H' : Hp} {ρ ρ' : List Addr} {S : Store} {e : Env} {σ : L2.St}
theorem EnvR.mono (g : GLe G G') (p : PLe ρ ρ') (h : EnvR K G ρ e σ) : EnvR K G' ρ' e σ :=
  ⟨h.len, fun i d q => let ⟨v, h1, h2⟩ := h.sl i d q; ⟨v, h1, Rep.mono g p _ _ h2⟩⟩
theorem EnvR.set (h : EnvR K G ρ e σ) (i : Nat) {d : D} {v : V} (r : Rep K G ρ d v) : EnvR K G ρ (e.set i (some d)) (σ.set i (some v)) where
  len := by rw [List.length_set, List.length_set]; exact h.len
  sl := fun j x q => by
    by_cases hj : i = j
    · subst hj
      have hl : i < e.length := by
        have := (List.getElem?_eq_some_iff.mp q).1
        rw [List.length_set] at this
        exact this
      rw [List.getElem?_set_self hl] at q
      have e2 : d = x := Option.some.inj (Option.some.inj q)
      rw [List.getElem?_set_self (by rw [← h.len]; exact hl), ← e2]
      exact ⟨v, rfl, r⟩
    · rw [List.getElem?_set_ne hj] at q
      rw [List.getElem?_set_ne hj]
      exact h.sl j x q
end
/-- the slots of a comprehension's own names forgotten -/
def wipeE (e : Env) : List Nat → Env
  | [] => e
  | v :: vs => (wipeE e vs).set v none
theorem EnvR.wipe {K : W.Frag} {G : Hp} {ρ : List Addr} {e : Env} {σ : L2.St} (h : EnvR K G ρ e σ) : ∀ vs : List Nat, EnvR K G ρ (wipeE e vs) (wipe σ vs)
  | [] => h
  | w :: vs => by
    have ih := EnvR.wipe h vs
    refine ⟨?_, fun j x q => ?_⟩
    · show ((wipeE e vs).set w none).length = ((L2.wipe σ vs).set w none).length
      rw [List.length_set, List.length_set]; exact ih.len
    · have q : ((wipeE e vs).set w none)[j]? = some (some x) := q
      show ∃ v, ((L2.wipe σ vs).set w none)[j]? = some (some v) ∧ _
      by_cases hj : w = j
      · subst hj
        have hl : w < (wipeE e vs).length := by
          have := (List.getElem?_eq_some_iff.mp q).1
          rw [List.length_set] at this
          exact this
        rw [List.getElem?_set_self hl] at q
        cases q
      · rw [List.getElem?_set_ne hj] at q
        rw [List.getElem?_set_ne hj]
        exact ih.sl j x q

/-! ### what is wanted behind a piece of code -/
/-- what is wanted of an exception -/
abbrev XW := XV → Hp → Hp → List Addr → Prop
def Aft {α : Type} (K : W.Frag) (w : XW) (G H : Hp) (ρ : List Addr) (r : Out (α × Store)) (k : α → Store → Hp → Hp → List Addr → Prop) : Prop :=
  match r with
  | .none => False
  | .some (a, S') => ∀ G' H' ρ', Go G H ρ G' H' ρ' → RS K G' H' ρ' S' → k a S' G' H' ρ'
  | .err x S' => ∀ G' H' ρ', Go G H ρ G' H' ρ' → RS K G' H' ρ' S' → w x G' H' ρ'
section
variable {K : W.Frag} {w : XW} {G G' H H' : Hp} {ρ ρ' : List Addr} {S : Store} {α β : Type}
theorem Aft.shift {r : Out (α × Store)} {k : α → Store → Hp → Hp → List Addr → Prop} (h : Aft K w G H ρ r k) (g : Go G H ρ G' H' ρ') : Aft K w G' H' ρ' r k := by
  cases r with
  | none => exact h
  | some x => exact fun G2 H2 ρ2 g2 rs => h G2 H2 ρ2 (g.trans g2) rs
  | err x S => exact fun G2 H2 ρ2 g2 rs => h G2 H2 ρ2 (g.trans g2) rs
theorem Aft.imp {r : Out (α × Store)} {k k' : α → Store → Hp → Hp → List Addr → Prop} (h : Aft K w G H ρ r k)
    (i : ∀ a S' G' H' ρ', Go G H ρ G' H' ρ' → RS K G' H' ρ' S' → k a S' G' H' ρ' → k' a S' G' H' ρ') : Aft K w G H ρ r k' := by
  cases r with
  | none => exact h
  | some x => exact fun G2 H2 ρ2 g2 rs => i _ _ _ _ _ g2 rs (h G2 H2 ρ2 g2 rs)
  | err x S => exact h
end
/-- one thing behind another -/
def bnd {α β : Type} (r : Out (α × Store)) (f : α → Store → Out (β × Store)) : Out (β × Store) := match r with
  | .none => .none
  | .some (a, S) => f a S
  | .err x S => .err x S
@[simp] theorem bnd_some {α β : Type} {a : α} {S : Store} {f : α → Store → Out (β × Store)} : bnd (.some (a, S)) f = f a S := rfl
@[simp] theorem bnd_none {α β : Type} {f : α → Store → Out (β × Store)} : bnd .none f = .none := rfl
@[simp] theorem bnd_err {α β : Type} {x : XV} {S : Store} {f : α → Store → Out (β × Store)} : bnd (.err x S) f = .err x S := rfl
section
variable {K : W.Frag} {w : XW} {G G' H H' : Hp} {ρ ρ' : List Addr} {S : Store} {α β : Type}
/-- a bind, from the left -/
theorem Aft.bind {r : Out (α × Store)} {f : α → Store → Out (β × Store)} {k : β → Store → Hp → Hp → List Addr → Prop}
    (h : Aft K w G H ρ (bnd r f) k) : Aft K w G H ρ r fun a S' G' H' ρ' => Aft K w G' H' ρ' (f a S') k := by
  cases r with
  | none => exact h
  | some x => exact fun G2 H2 ρ2 g2 rs => Aft.shift (r := f x.1 x.2) h g2
  | err x S => exact h
/-- a pure end -/
def fin {α : Type} (r : Option α) (S : Store) : Out (α × Store) := match r with
  | none => .none
  | some a => .some (a, S)
theorem Aft.fin {r : Option α} {k : α → Store → Hp → Hp → List Addr → Prop} (h : Aft K w G H ρ (fin r S) k) : ∃ d, r = some d ∧ ∀ G' H' ρ', Go G H ρ G' H' ρ' → RS K G' H' ρ' S → k d S G' H' ρ' := by
  cases r with
  | none => exact h.elim
  | some d => exact ⟨d, rfl, h⟩
end
@[simp] theorem fin_some {α : Type} {a : α} {S : Store} : fin (some a) S = .some (a, S) := rfl
@[simp] theorem fin_none {α : Type} {S : Store} : fin (none : Option α) S = .none := rfl

/-! ### judgements -/
def Want (K : W.Frag) (Q : VK) : D → Store → Hp → Hp → List Addr → Prop := fun d _ G' H' ρ' => ∀ v, Rep K G' ρ' d v → Q v H'
/-- an exception in the heap -/
def XRep (K : W.Frag) (G H : Hp) (ρ : List Addr) : XV → Value → Option Addr → Prop
  | .own C, c, d => c = .ref C ∧ d = none
  | .fld C l, c, d => c = .ref C ∧ ∃ dd fs, d = some dd ∧ H dd = some (.xd fs) ∧ Paired (fun p q => p.1 = q.1 ∧ Rep K G ρ p.2 q.2) l fs
/-- the wish W, the slots being σ -/
def wE (K : W.Frag) (Wx : WX) (σ : L2.St) : XW := fun x G' H' ρ' => ∀ c d, XRep K G' H' ρ' x c d → Wx c d σ H'
/-- nothing is raised -/
abbrev W0 : WX := fun _ _ _ _ => False
/-- the reading t follows m -/
def SndE (K : W.Frag) (Wx : WX) (t : TE) (m : M D) : Prop := ∀ (σ : L2.St) (H : Hp) (Q : VK) (e : Env) (G : Hp) (ρ : List Addr) (S : Store), EnvR K G ρ e σ → RS K G H ρ S → Aft K (wE K Wx σ) G H ρ (m e S) (Want K Q) → t σ H Q
def SndT (K : W.Frag) (Wx : WX) (t : TT) (m : M Bool) : Prop := ∀ (σ : L2.St) (H : Hp) (Q : Bool → Hp → Prop) (e : Env) (G : Hp) (ρ : List Addr) (S : Store), EnvR K G ρ e σ → RS K G H ρ S → Aft K (wE K Wx σ) G H ρ (m e S) (fun b _ _ H' _ => Q b H') → t σ H Q
def SndA (K : W.Frag) (Wx : WX) (t : TA) (m : M (List D)) : Prop := ∀ (σ : L2.St) (H : Hp) (Q : List V → Hp → Prop) (e : Env) (G : Hp) (ρ : List Addr) (S : Store), EnvR K G ρ e σ → RS K G H ρ S →
  Aft K (wE K Wx σ) G H ρ (m e S) (fun ds _ G' H' ρ' => ∀ vs, Reps K G' ρ' ds vs → Q vs H') → t σ H Q
/-- a new list -/
def SndL (K : W.Frag) (Wx : WX) (t : TE) (m : M (List D)) : Prop := ∀ (σ : L2.St) (H : Hp) (Q : VK) (e : Env) (G : Hp) (ρ : List Addr) (S : Store), EnvR K G ρ e σ → RS K G H ρ S →
  Aft K (wE K Wx σ) G H ρ (m e S) (fun ds S' G' H' ρ' => ∀ p vs, H' p = none → Reps K G' ρ' ds vs → Q (.ref p) (upd H' p (.lst vs))) → t σ H Q
def PD (X : Cx) (Wx : WX) (e : Expr) (m : M D) : Prop := ∃ t, PE X e t ∧ SndE X.K Wx t m
def PB (X : Cx) (Wx : WX) (e : Expr) (m : M Bool) : Prop := ∃ t, PT X e t ∧ SndT X.K Wx t m
def PAs (X : Cx) (Wx : WX) (es : List Expr) (m : M (List D)) : Prop := ∃ t, PA X es t ∧ SndA X.K Wx t m
def PL (X : Cx) (Wx : WX) (e : Expr) (m : M (List D)) : Prop := ∃ t, PE X e t ∧ SndL X.K Wx t m
end MD
set_option Elab.async false
set_option linter.all false
set_option maxRecDepth 100000
set_option maxHeartbeats 1000000
/-! expressions -/
namespace MD
open PySem PySem.Spec PyProof.Rows L2

/-! ### names, constants -/
def mVar (i : Nat) : M D := fun e S => match e[i]? with
  | some (some d) => .some (d, S)
  | _ => .none
def mC (d : D) : M D := fun _ S => .some (d, S)
section
variable {X : Cx} {Wx : WX} {K : W.Frag}
theorem snd_var (i : Nat) : SndE K Wx (tVar i) (mVar i) := by
  intro σ H Q e G ρ S he rs h
  unfold mVar at h
  split at h
  · rename_i d hd
    obtain ⟨v, h1, h2⟩ := he.sl i d hd
    exact ⟨v, h1, h G H ρ Go.refl rs v h2⟩
  · exact h.elim
theorem pd_var (i : Nat) {x : Str} {pos : Pos} (hN : X.N[i]? = some x := by rfl) (hv : Vis X.env.scope x := by first | exact Or.inl rfl | exact Or.inr (Or.inl rfl) | exact Or.inr (Or.inr rfl)) (hd : (x == ("__debug__" : Str)) = false := by decide)
    (hcd : (x == ("__classdict__" : Str)) = false := by decide) : PD X Wx (.Name x pos) (mVar i) := ⟨_, pe_var hN hv hd hcd, snd_var i⟩
theorem snd_c {d : D} {v : V} (h : ∀ G ρ w, Rep K G ρ d w → w = v) (h2 : ∀ G ρ, Rep K G ρ d v) : SndE K Wx (tC v) (mC d) := by
  intro σ H Q e G ρ S he rs q
  exact q G H ρ Go.refl rs v (h2 G ρ)
theorem pd_int {i : Int} {j : Nat} {pos : Pos} : PD X Wx (.Constant (.int i) j pos) (mC (.int i)) := ⟨_, pe_int, snd_c (fun _ _ _ h => h) (fun _ _ => rfl)⟩
theorem pd_bl {b : Bool} {j : Nat} {pos : Pos} : PD X Wx (.Constant (.bool b) j pos) (mC (.bl b)) := ⟨_, pe_bl, snd_c (fun _ _ _ h => h) (fun _ _ => rfl)⟩
theorem pd_non {j : Nat} {pos : Pos} : PD X Wx (.Constant .none j pos) (mC .non) := ⟨_, pe_non, snd_c (fun _ _ _ h => h) (fun _ _ => rfl)⟩
theorem pd_str {x : Str} {j : Nat} {pos : Pos} : PD X Wx (.Constant (.str x) j pos) (mC (.str x)) := ⟨_, pe_str, snd_c (fun _ _ _ h => h) (fun _ _ => rfl)⟩
/-- a module's constant that is a scalar -/
theorem pd_glob {x : Str} {d : D} {v : V} {u : Value} {pos : Pos} (hg : Gl X x) (hm : X.mg x = some u) (r : RelV v u) (hd2 : ∀ G ρ, Rep X.K G ρ d v) (hd : (x == ("__debug__" : Str)) = false := by decide) : PD X Wx (.Name x pos) (mC d) :=
  ⟨_, pe_glob hg hm r hd, fun σ H Q e G ρ S he rs q => q G H ρ Go.refl rs v (hd2 G ρ)⟩

/-! ### operations on values -/
def OpS (K : W.Frag) (r : R2) (g : Store → D → D → Option D) : Prop := ∀ (G H : Hp) (ρ : List Addr) (S : Store) (x y : D) (v u : V) (Q : VK), RS K G H ρ S → Rep K G ρ x v → Rep K G ρ y u →
  ∀ d, g S x y = some d → (∀ G' H', Go G H ρ G' H' ρ → RS K G' H' ρ S → ∀ w, Rep K G' ρ d w → Q w H') → r v u H Q
def UnS (K : W.Frag) (r : V → Hp → VK → Prop) (g : Store → D → Option D) : Prop := ∀ (G H : Hp) (ρ : List Addr) (S : Store) (x : D) (v : V) (Q : VK), RS K G H ρ S → Rep K G ρ x v →
  ∀ d, g S x = some d → (∀ G' H', Go G H ρ G' H' ρ → RS K G' H' ρ S → ∀ w, Rep K G' ρ d w → Q w H') → r v H Q
def CaS (K : W.Frag) (r : List V → Hp → VK → Prop) (g : Store → List D → Option D) : Prop := ∀ (G H : Hp) (ρ : List Addr) (S : Store) (xs : List D) (vs : List V) (Q : VK), RS K G H ρ S → Reps K G ρ xs vs →
  ∀ d, g S xs = some d → (∀ G' H', Go G H ρ G' H' ρ → RS K G' H' ρ S → ∀ w, Rep K G' ρ d w → Q w H') → r vs H Q
def mOp2 (g : Store → D → D → Option D) (a b : M D) : M D := fun e S => bnd (a e S) fun x S1 => bnd (b e S1) fun y S2 => fin (g S2 x y) S2
def mOp1 (g : Store → D → Option D) (a : M D) : M D := fun e S => bnd (a e S) fun x S1 => fin (g S1 x) S1
def mOpN (g : Store → List D → Option D) (a : M (List D)) : M D := fun e S => bnd (a e S) fun x S1 => fin (g S1 x) S1
theorem snd_op2 {r : R2} {g : Store → D → D → Option D} {ta tb : TE} {ma mb : M D} (o : OpS K r g) (ha : SndE K Wx ta ma) (hb : SndE K Wx tb mb) : SndE K Wx (tOp r ta tb) (mOp2 g ma mb) := by
  intro σ H Q e G ρ S he rs h
  refine ha σ H _ e G ρ S he rs (Aft.imp (Aft.bind h) fun x S1 G1 H1 ρ1 g1 rs1 h1 v rv => ?_)
  refine hb σ H1 _ e G1 ρ1 S1 (he.mono g1.gr g1.pl) rs1 (Aft.imp (Aft.bind h1) fun y S2 G2 H2 ρ2 g2 rs2 h2 u ru => ?_)
  obtain ⟨d, e1, h3⟩ := Aft.fin h2
  exact o G2 H2 ρ2 S2 x y v u Q rs2 (Rep.mono g2.gr g2.pl _ _ rv) ru d e1 fun G' H' g3 rs3 w rw => h3 G' H' ρ2 g3 rs3 w rw
theorem snd_op1 {r : V → Hp → VK → Prop} {g : Store → D → Option D} {ta : TE} {ma : M D} (o : UnS K r g) (ha : SndE K Wx ta ma) : SndE K Wx (tUn r ta) (mOp1 g ma) := by
  intro σ H Q e G ρ S he rs h
  refine ha σ H _ e G ρ S he rs (Aft.imp (Aft.bind h) fun x S1 G1 H1 ρ1 g1 rs1 h1 v rv => ?_)
  obtain ⟨d, e1, h3⟩ := Aft.fin h1
  exact o G1 H1 ρ1 S1 x v Q rs1 rv d e1 fun G' H' g3 rs3 w rw => h3 G' H' ρ1 g3 rs3 w rw
theorem snd_opN {r : List V → Hp → VK → Prop} {g : Store → List D → Option D} {ta : TA} {ma : M (List D)} (o : CaS K r g) (ha : SndA K Wx ta ma) : SndE K Wx (tCB r ta) (mOpN g ma) := by
  intro σ H Q e G ρ S he rs h
  refine ha σ H _ e G ρ S he rs (Aft.imp (Aft.bind h) fun x S1 G1 H1 ρ1 g1 rs1 h1 v rv => ?_)
  obtain ⟨d, e1, h3⟩ := Aft.fin h1
  exact o G1 H1 ρ1 S1 x v Q rs1 rv d e1 fun G' H' g3 rs3 w rw => h3 G' H' ρ1 g3 rs3 w rw
theorem OpS.or {r r' : R2} {g g' : Store → D → D → Option D} (a : OpS K r g) (b : OpS K r' g') : OpS K (fun x y H Q => r x y H Q ∨ r' x y H Q) (fun S x y => (g S x y).or (g' S x y)) := by
  intro G H ρ S x y v u Q rs rx ry d e k
  have e : (g S x y).or (g' S x y) = some d := e
  cases e1 : g S x y with
  | some z =>
    rw [e1] at e
    have e2 : z = d := Option.some.inj e
    rw [e2] at e1
    exact .inl (a G H ρ S x y v u Q rs rx ry d e1 k)
  | none =>
    rw [e1] at e
    exact .inr (b G H ρ S x y v u Q rs rx ry d e k)
theorem CaS.or {r r' : List V → Hp → VK → Prop} {g g' : Store → List D → Option D} (a : CaS K r g) (b : CaS K r' g') : CaS K (fun xs H Q => r xs H Q ∨ r' xs H Q) (fun S xs => (g S xs).or (g' S xs)) := by
  intro G H ρ S xs vs Q rs rx d e k
  have e : (g S xs).or (g' S xs) = some d := e
  cases e1 : g S xs with
  | some z =>
    rw [e1] at e
    have e2 : z = d := Option.some.inj e
    rw [e2] at e1
    exact .inl (a G H ρ S xs vs Q rs rx d e1 k)
  | none =>
    rw [e1] at e
    exact .inr (b G H ρ S xs vs Q rs rx d e k)

/-! ### ints -/
def gI (f : Int → Int → D) : Store → D → D → Option D := fun _ x y => match x, y with
  | .int i, .int j => some (f i j)
  | _, _ => none
def gIC (C : Int → Int → Bool) (f : Int → Int → D) : Store → D → D → Option D := fun _ x y => match x, y with
  | .int i, .int j => if C i j then some (f i j) else none
  | _, _ => none
theorem ops_I0 {f : Int → Int → D} {f' : Int → Int → V} (h : ∀ G ρ i j, Rep K G ρ (f i j) (f' i j)) : OpS K (rI0 f') (gI f) := by
  intro G H ρ S x y v u Q rs rx ry d e k
  unfold gI at e
  split at e
  · rename_i i j
    have e1 : f i j = d := Option.some.inj e
    have hx : v = .int i := rx
    have hy : u = .int j := ry
    refine ⟨i, j, hx, hy, k G H Go.refl rs _ ?_⟩
    rw [← e1]
    exact h G ρ i j
  · cases e
theorem ops_I {C : Int → Int → Prop} {c : Int → Int → Bool} {f : Int → Int → D} {f' : Int → Int → V} (hc : ∀ i j, c i j = true → C i j) (h : ∀ G ρ i j, Rep K G ρ (f i j) (f' i j)) : OpS K (rI C f') (gIC c f) := by
  intro G H ρ S x y v u Q rs rx ry d e k
  unfold gIC at e
  split at e
  · rename_i i j
    split at e
    · rename_i hcc
      have e1 : f i j = d := Option.some.inj e
      have hx : v = .int i := rx
      have hy : u = .int j := ry
      refine ⟨i, j, hx, hy, hc i j hcc, k G H Go.refl rs _ ?_⟩
      rw [← e1]
      exact h G ρ i j
    · cases e
  · cases e
abbrev gAddI := gI fun i j => .int (i + j)
abbrev gSubI := gI fun i j => .int (i - j)
def cMul (i j : Int) : Bool := (decide (-(2 ^ 64) < i) && decide (i < 2 ^ 64)) || (decide (-(2 ^ 64) < j) && decide (j < 2 ^ 64))
def cDiv (i j : Int) : Bool := decide (j ≠ 0) && decide (j.natAbs < 1073741824)
def cPow (i j : Int) : Bool := decide (0 ≤ j) && decide (j ≤ 1000000) && decide (i.natAbs < 2 ^ 64)
abbrev gMulI := gIC cMul fun i j => .int (i * j)
abbrev gDivI := gIC cDiv fun i j => .int (i.fdiv j)
abbrev gModI := gIC (fun _ j => decide (j ≠ 0)) fun i j => .int (i.fmod j)
abbrev gPowI := gIC cPow fun i j => .int (i ^ j.toNat)
theorem ops_addI : OpS K (rI0 fun i j => .int (i + j)) gAddI := ops_I0 fun _ _ _ _ => rfl
theorem ops_subI : OpS K (rI0 fun i j => .int (i - j)) gSubI := ops_I0 fun _ _ _ _ => rfl
theorem ops_mulI : OpS K (rI CMul fun i j => .int (i * j)) gMulI := ops_I (fun i j h => by
  unfold cMul at h
  simp only [Bool.or_eq_true, Bool.and_eq_true, decide_eq_true_eq] at h
  exact h) fun _ _ _ _ => rfl
theorem ops_divI : OpS K (rI CDivN fun i j => .int (i.fdiv j)) gDivI := ops_I (fun i j h => by
  unfold cDiv at h
  simp only [Bool.and_eq_true, decide_eq_true_eq] at h
  exact h) fun _ _ _ _ => rfl
theorem ops_modI : OpS K (rI (fun _ j => j ≠ 0) fun i j => .int (i.fmod j)) gModI := ops_I (fun i j h => of_decide_eq_true h) fun _ _ _ _ => rfl
theorem ops_powI : OpS K (rI CPow fun i j => .int (i ^ j.toNat)) gPowI := ops_I (fun i j h => by
  unfold cPow at h
  simp only [Bool.and_eq_true, decide_eq_true_eq] at h
  exact ⟨h.1.1, h.1.2, h.2⟩) fun _ _ _ _ => rfl
abbrev gLt := gI fun i j => .bl (decide (i < j))
abbrev gLe := gI fun i j => .bl (decide (i ≤ j))
abbrev gGt := gI fun i j => .bl (decide (j < i))
abbrev gGe := gI fun i j => .bl (decide (j ≤ i))
theorem ops_lt : OpS K (rI0 fun i j => .bl (decide (i < j))) gLt := ops_I0 fun _ _ _ _ => rfl
theorem ops_le : OpS K (rI0 fun i j => .bl (decide (i ≤ j))) gLe := ops_I0 fun _ _ _ _ => rfl
theorem ops_gt : OpS K (rI0 fun i j => .bl (decide (j < i))) gGt := ops_I0 fun _ _ _ _ => rfl
theorem ops_ge : OpS K (rI0 fun i j => .bl (decide (j ≤ i))) gGe := ops_I0 fun _ _ _ _ => rfl
def gNeg : Store → D → Option D := fun _ x => match x with
  | .int i => some (.int (-i))
  | _ => none
theorem uns_neg : UnS K (rU fun i => .int (-i)) gNeg := by
  intro G H ρ S x v Q rs rx d e k
  unfold gNeg at e
  split at e
  · rename_i i
    have e1 : D.int (-i) = d := Option.some.inj e
    have hx : v = .int i := rx
    refine ⟨i, hx, k G H Go.refl rs _ ?_⟩
    rw [← e1]
    exact rfl
  · cases e

/-! ### sequences -/
/-- the items of a tuple, a list -/
def itemsOf (S : Store) : D → Option (Bool × List D)
  | .tup l => some (false, l)
  | .lst l => some (true, l)
  | .scr l => some (true, l)
  | .ref n => match S[n]? with
    | some (.lst l) => some (true, l)
    | _ => none
  | _ => none
theorem items_rep {G H : Hp} {ρ : List Addr} {S : Store} {x : D} {v : V} {b : Bool} {l : List D} (rs : RS K G H ρ S) (rx : Rep K G ρ x v) (h : itemsOf S x = some (b, l)) :
    ∃ a vs, v = .ref a ∧ Reps K G ρ l vs ∧ (b = true → SqL K H a vs) ∧ (b = false → SqT K H a vs) := by
  unfold itemsOf at h
  split at h
  · rename_i l0
    obtain ⟨a, vs, e, h1, h2⟩ := rx
    injection h with h
    injection h with hb hl
    subst hb hl
    exact ⟨a, vs, e, h2, (fun z => nomatch z), fun _ => rs.sub.sqt h1⟩
  · rename_i l0
    obtain ⟨a, vs, e, h1, h2⟩ := rx
    injection h with h
    injection h with hb hl
    subst hb hl
    exact ⟨a, vs, e, h2, fun _ => SqL.of (rs.sub _ _ h1), (fun z => nomatch z)⟩
  · rename_i l0
    obtain ⟨a, vs, e, h1, h2⟩ := rx
    injection h with h
    injection h with hb hl
    subst hb hl
    exact ⟨a, vs, e, h2, fun _ => rs.sub.sql h1, (fun z => nomatch z)⟩
  · rename_i n
    split at h
    · rename_i l0 hn
      injection h with h
      injection h with hb hl
      subst hb hl
      obtain ⟨a, e, h1⟩ := rx
      obtain ⟨vs, h2, h3⟩ := rs.obj n _ a hn h1
      exact ⟨a, vs, e, h3, fun _ => SqL.of h2, (fun z => nomatch z)⟩
    · cases h
  · cases h
def gIx : Store → D → D → Option D := fun S x y => match itemsOf S x, y with
  | some (_, l), .int i => atI l i
  | _, _ => none
theorem atI_rep {G : Hp} {ρ : List Addr} {l : List D} {vs : List V} {i : Int} {d : D} (h : Reps K G ρ l vs) (e : atI l i = some d) : ∃ v, atI vs i = some v ∧ Rep K G ρ d v := by
  unfold atI at e ⊢
  rw [← h.length]
  cases q : ixN l.length i with
  | none => rw [q] at e; cases e
  | some j =>
    rw [q] at e
    exact h.get (show l[j]? = some d from e)
theorem ops_ix : OpS K (rIx K) gIx := by
  intro G H ρ S x y v u Q rs rx ry d e k
  unfold gIx at e
  split at e
  · rename_i b l i hi
    obtain ⟨a, vs, ev, hl, h1, h2⟩ := items_rep rs rx hi
    obtain ⟨w, hw, rw⟩ := atI_rep hl e
    have hy : u = .int i := ry
    cases b with
    | true => exact .inl ⟨a, vs, i, w, ev, hy, h1 rfl, hw, k G H Go.refl rs w rw⟩
    | false => exact .inr (.inl ⟨a, vs, i, w, ev, hy, h2 rfl, hw, k G H Go.refl rs w rw⟩)
  · cases e
def gLen : Store → List D → Option D := fun S xs => match xs with
  | [x] => (match x with
    | .str s => if s.length ≤ sizeLine then some (.int s.length) else none
    | x => (itemsOf S x).map fun p => .int p.2.length)
  | _ => none
theorem cas_len : CaS K (fun xs H Q => ∃ x n, xs = [x] ∧ LenV K x H n ∧ Q (.int n) H) gLen := by
  intro G H ρ S xs vs Q rs rx d e k
  unfold gLen at e
  split at e
  · rename_i x
    obtain ⟨v, r, e0, rv, er⟩ := rx
    have er : r = [] := er
    subst er
    split at e
    · rename_i s
      split at e
      · rename_i hs
        have e1 : D.int s.length = d := Option.some.inj e
        have hv : v = .str s := rv
        refine ⟨v, s.length, e0, ?_, k G H Go.refl rs _ (by rw [← e1]; exact rfl)⟩
        rw [hv]
        exact ⟨hs, rfl⟩
      · cases e
    · cases hi : itemsOf S x with
      | none => rw [hi] at e; cases e
      | some p =>
        rw [hi] at e
        obtain ⟨b, l⟩ := p
        have e1 : D.int l.length = d := Option.some.inj e
        obtain ⟨a, ws, ev, hl, h1, h2⟩ := items_rep rs rv hi
        refine ⟨v, l.length, e0, ?_, k G H Go.refl rs _ (by rw [← e1]; exact rfl)⟩
        rw [ev]
        cases b with
        | true => exact .inl ⟨ws, h1 rfl, hl.length⟩
        | false => exact .inr ⟨ws, h2 rfl, hl.length⟩
  · cases e

/-! ### argument lists, displays -/
def mNil : M (List D) := fun _ S => .some ([], S)
def mCons (a : M D) (r : M (List D)) : M (List D) := fun e S => bnd (a e S) fun x S1 => bnd (r e S1) fun l S2 => .some (x :: l, S2)
theorem snd_nil : SndA K Wx tNil mNil := fun σ H Q e G ρ S he rs h => h G H ρ Go.refl rs [] rfl
theorem snd_cons {ta : TE} {tr : TA} {ma : M D} {mr : M (List D)} (ha : SndE K Wx ta ma) (hr : SndA K Wx tr mr) : SndA K Wx (tCons ta tr) (mCons ma mr) := by
  intro σ H Q e G ρ S he rs h
  refine ha σ H _ e G ρ S he rs (Aft.imp (Aft.bind h) fun x S1 G1 H1 ρ1 g1 rs1 h1 v rv => ?_)
  refine hr σ H1 _ e G1 ρ1 S1 (he.mono g1.gr g1.pl) rs1 ?_
  cases q : mr e S1 with
  | none => rw [q] at h1; exact h1
  | err xx SS => rw [q] at h1; exact h1
  | some p =>
    rw [q] at h1
    exact fun G2 H2 ρ2 g2 rs2 vs rvs => h1 G2 H2 ρ2 g2 rs2 (v :: vs) ⟨v, vs, rfl, Rep.mono g2.gr g2.pl _ _ rv, rvs⟩
theorem pas_nil : PAs X Wx [] mNil := ⟨_, pa_nil, snd_nil⟩
theorem pas_cons {e : Expr} {es : List Expr} {ma : M D} {mr : M (List D)} (ha : PD X Wx e ma) (hr : PAs X Wx es mr) (hs : starEach (e :: es) X.env = (false, eval e X.env) :: starEach es X.env := by rfl) : PAs X Wx (e :: es) (mCons ma mr) := by
  obtain ⟨t, h1, h2⟩ := ha
  obtain ⟨u, h3, h4⟩ := hr
  exact ⟨_, pa_cons h1 h3 hs, snd_cons h2 h4⟩
def gTup : Store → List D → Option D := fun _ xs => if xs.length ≤ sizeLine then some (.tup xs) else none
theorem Reps.newT {G H : Hp} {ρ : List Addr} {S : Store} {l : List D} {vs : List V} (rs : RS K G H ρ S) {p : Addr} (hp : H p = none) (o : HO) (h : Reps K G ρ l vs) : Reps K (upd G p o) ρ l vs := Reps.mono (GLe.upd (rs.none_of hp)) (PLe.refl ρ) _ _ h
theorem snd_tup {ta : TA} {ma : M (List D)} (ha : SndA K Wx ta ma) : SndE K Wx (tTup ta) (mOpN gTup ma) := by
  intro σ H Q e G ρ S he rs h
  refine ha σ H _ e G ρ S he rs (Aft.imp (Aft.bind h) fun x S1 G1 H1 ρ1 g1 rs1 h1 vs rv => ?_)
  obtain ⟨d, e1, h3⟩ := Aft.fin h1
  unfold gTup at e1
  split at e1
  · rename_i hz
    have e2 : D.tup x = d := Option.some.inj e1
    refine ⟨by rw [← rv.length]; exact hz, fun p hp => ?_⟩
    refine h3 (upd G1 p (.tup vs)) (upd H1 p (.tup vs)) ρ1 (Go.new hp (rs1.none_of hp) _) (rs1.new hp _) _ ?_
    rw [← e2]
    exact ⟨p, vs, rfl, SqT.of upd_same, rv.newT rs1 hp _⟩
  · cases e1
theorem pd_tup {es : List Expr} {x1 : Nat} {pos : Pos} {m : M (List D)} (h : PAs X Wx es m) : PD X Wx (.Tuple es x1 pos) (mOpN gTup m) := by
  obtain ⟨t, h1, h2⟩ := h
  exact ⟨_, pe_tup h1, snd_tup h2⟩
def mLst (m : M (List D)) : M (List D) := fun e S => bnd (m e S) fun l S1 => if l.length ≤ sizeLine then .some (l, S1) else .none
theorem pl_lst {es : List Expr} {pos : Pos} {m : M (List D)} (h : PAs X Wx es m) : PL X Wx (.List es pos) (mLst m) := by
  obtain ⟨t, h1, h2⟩ := h
  refine ⟨_, pe_lst h1, fun σ H Q e G ρ S he rs h => ?_⟩
  refine h2 σ H _ e G ρ S he rs (Aft.imp (Aft.bind h) fun x S1 G1 H1 ρ1 g1 rs1 h1 vs rv => ?_)
  split at h1
  · rename_i hz
    exact ⟨by rw [← rv.length]; exact hz, fun p hp => h1 G1 H1 ρ1 Go.refl rs1 p vs hp rv⟩
  · exact h1.elim
/-- a new list, frozen | owned -/
def mFrz (m : M (List D)) : M D := fun e S => bnd (m e S) fun l S1 => .some (.lst l, S1)
def mNew (m : M (List D)) : M D := fun e S => bnd (m e S) fun l S1 => .some (.ref S1.length, S1 ++ [.lst l])
theorem snd_frz {t : TE} {m : M (List D)} (h2 : SndL K Wx t m) : SndE K Wx t (mFrz m) := by
  intro σ H Q e G ρ S he rs h
  refine h2 σ H Q e G ρ S he rs ?_
  unfold mFrz at h
  cases q : m e S with
  | none => rw [q] at h; exact h
  | err xx SS => rw [q] at h; exact h
  | some p =>
    rw [q] at h
    refine fun G1 H1 ρ1 g1 rs1 a vs ha rv => ?_
    exact h (upd G1 a (.lst vs)) (upd H1 a (.lst vs)) ρ1 (g1.trans (Go.new ha (rs1.none_of ha) _)) (rs1.new ha _) _ ⟨a, vs, rfl, upd_same, rv.newT rs1 ha _⟩
theorem snd_new {t : TE} {m : M (List D)} (h2 : SndL K Wx t m) : SndE K Wx t (mNew m) := by
  intro σ H Q e G ρ S he rs h
  refine h2 σ H Q e G ρ S he rs ?_
  unfold mNew at h
  cases q : m e S with
  | none => rw [q] at h; exact h
  | err xx SS => rw [q] at h; exact h
  | some p =>
    rw [q] at h
    refine fun G1 H1 ρ1 g1 rs1 a vs ha rv => ?_
    refine h G1 (upd H1 a (.lst vs)) (ρ1 ++ [a]) (g1.trans (Go.own ha _)) (rs1.own ha (o := .lst p.1) ⟨vs, upd_same, Reps.mono (GLe.refl _) (PLe.app _ _) _ _ rv⟩) _ ⟨a, rfl, ?_⟩
    rw [← rs1.len, List.getElem?_append_right (Nat.le_refl _), Nat.sub_self]
    rfl
theorem PL.frz {e : Expr} {m : M (List D)} (h : PL X Wx e m) : PD X Wx e (mFrz m) := by
  obtain ⟨t, h1, h2⟩ := h
  exact ⟨_, h1, snd_frz h2⟩
theorem PL.new {e : Expr} {m : M (List D)} (h : PL X Wx e m) : PD X Wx e (mNew m) := by
  obtain ⟨t, h1, h2⟩ := h
  exact ⟨_, h1, snd_new h2⟩

/-! ### terms for operators, subscripts, calls of built-ins -/
section
variable {a b c : Expr} {ma mb mc : M D} {pos : Pos} {g g' : Store → D → D → Option D}
theorem pd_bin {op : Operator} {r : R2} (ho : OpR X (binaryOp op) r) (o : OpS X.K r g) (ha : PD X Wx a ma) (hb : PD X Wx b mb) : PD X Wx (.BinOp a op b pos) (mOp2 g ma mb) := by
  obtain ⟨t, h1, h2⟩ := ha
  obtain ⟨u, h3, h4⟩ := hb
  exact ⟨_, pe_op ho h1 h3, snd_op2 o h2 h4⟩
theorem pd_neg (ha : PD X Wx a ma) : PD X Wx (.UnaryOp .USub a pos) (mOp1 gNeg ma) := by
  obtain ⟨t, h1, h2⟩ := ha
  exact ⟨_, pe_un un_neg h1, snd_op1 uns_neg h2⟩
theorem pd_ix (ha : PD X Wx a ma) (hb : PD X Wx b mb) (hs : PlainIx b := by exact fun _ _ => rfl) : PD X Wx (.Subscript a b pos) (mOp2 gIx ma mb) := by
  obtain ⟨t, h1, h2⟩ := ha
  obtain ⟨u, h3, h4⟩ := hb
  exact ⟨_, pe_ix ix_seq h1 h3 hs, snd_op2 ops_ix h2 h4⟩
theorem pd_cmp {op : CmpOp} {r : R2} (ho : OpR X (compareOp op) r) (o : OpS X.K r g) (ha : PD X Wx a ma) (hb : PD X Wx b mb) (hm : behindInMarks op b = false) : PD X Wx (.Compare a [op] [b] pos) (mOp2 g ma mb) := by
  obtain ⟨t, h1, h2⟩ := ha
  obtain ⟨u, h3, h4⟩ := hb
  exact ⟨_, pe_cmpR ho h1 h3 hm, snd_op2 o h2 h4⟩
/-- a value's bool -/
def mTest (m : M D) : M Bool := fun e S => bnd (m e S) fun x S1 => match x with
  | .bl b => .some (b, S1)
  | _ => .none
theorem snd_test {t : TE} {m : M D} (h : SndE K Wx t m) : SndT K Wx (tTest t) (mTest m) := by
  intro σ H Q e G ρ S he rs q
  refine h σ H _ e G ρ S he rs (Aft.imp (Aft.bind q) fun x S1 G1 H1 ρ1 g1 rs1 h1 v rv => ?_)
  split at h1
  · rename_i b
    have hv : v = .bl b := rv
    exact ⟨b, hv, h1 G1 H1 ρ1 Go.refl rs1⟩
  · exact h1.elim
theorem pb_cmp {op : CmpOp} {r : R2} (ho : OpR X (compareOp op) r) (o : OpS X.K r g) (ha : PD X Wx a ma) (hb : PD X Wx b mb) (hm : behindInMarks op b = false) : PB X Wx (.Compare a [op] [b] pos) (mTest (mOp2 g ma mb)) := by
  obtain ⟨t, h1, h2⟩ := ha
  obtain ⟨u, h3, h4⟩ := hb
  exact ⟨_, pt_cmpR ho h1 h3 hm, snd_test (snd_op2 o h2 h4)⟩
theorem pb_val {e : Expr} {m : M D} (h : PD X Wx e m) (he : ∀ whole, isTrue e X.env whole = (do let v ← whole; standAt e.pos; holding [v] (truthy v)) := by intro _; rfl) : PB X Wx e (mTest m) := by
  obtain ⟨t, h1, h2⟩ := h
  exact ⟨_, pt_val h1 he, snd_test h2⟩
/-- truth of any value -/
def truD (S : Store) : D → Option Bool
  | .non => some false
  | .bl b => some b
  | .int i => some (i != 0)
  | .str s => if s.length ≤ sizeLine then some ((s.length : Int) != 0) else none
  | x => (itemsOf S x).map fun p => !p.2.isEmpty
theorem isEmpty_reps {G : Hp} {ρ : List Addr} {l : List D} {vs : List V} (h : Reps K G ρ l vs) : l.isEmpty = vs.isEmpty := by
  have e := h.length
  cases l <;> cases vs <;> simp_all
theorem tru_rep {G H : Hp} {ρ : List Addr} {S : Store} {x : D} {v : V} {b : Bool} (rs : RS K G H ρ S) (rx : Rep K G ρ x v) (h : truD S x = some b) : TruV K v H b := by
  unfold truD at h
  split at h
  · have hv : v = .non := rx
    rw [hv]
    exact (Option.some.inj h).symm
  · rename_i b0
    have hv : v = .bl b0 := rx
    rw [hv]
    exact (Option.some.inj h).symm
  · rename_i i
    have hv : v = .int i := rx
    rw [hv]
    exact (Option.some.inj h).symm
  · rename_i s
    split at h
    · rename_i hs
      have hv : v = .str s := rx
      rw [hv]
      exact ⟨hs, (Option.some.inj h).symm⟩
    · cases h
  · cases hi : itemsOf S x with
    | none => rw [hi] at h; cases h
    | some p =>
      rw [hi] at h
      obtain ⟨c, l⟩ := p
      have hb : (!l.isEmpty) = b := Option.some.inj h
      obtain ⟨a, ws, ev, hl, h1, h2⟩ := items_rep rs rx hi
      rw [ev, ← hb, isEmpty_reps hl]
      cases c with
      | true => exact .inl ⟨ws, h1 rfl, rfl⟩
      | false => exact .inr (.inl ⟨ws, h2 rfl, rfl⟩)
def mTru (m : M D) : M Bool := fun e S => bnd (m e S) fun x S1 => fin (truD S1 x) S1
theorem pb_tru {e : Expr} {m : M D} (h : PD X Wx e m) (he : ∀ whole, isTrue e X.env whole = (do let v ← whole; standAt e.pos; holding [v] (truthy v)) := by intro _; rfl) : PB X Wx e (mTru m) := by
  obtain ⟨t, h1, h2⟩ := h
  refine ⟨_, pt_truth h1 he, fun σ H Q e G ρ S he rs q => ?_⟩
  refine h2 σ H _ e G ρ S he rs (Aft.imp (Aft.bind q) fun x S1 G1 H1 ρ1 g1 rs1 h1 v rv => ?_)
  obtain ⟨b, e1, h3⟩ := Aft.fin h1
  exact ⟨b, tru_rep rs1 rv e1, h3 G1 H1 ρ1 Go.refl rs1⟩
end
end
end MD
set_option Elab.async false
set_option linter.all false
set_option maxRecDepth 100000
set_option maxHeartbeats 1000000
/-! tests, equality, isinstance, built-ins -/
namespace MD
open PySem PySem.Spec PyProof.Rows L2

/-! ### and, or, not, if -/
def mAnd (t u : M Bool) : M Bool := fun e S => bnd (t e S) fun b S1 => if b = true then u e S1 else .some (false, S1)
def mOr (t u : M Bool) : M Bool := fun e S => bnd (t e S) fun b S1 => if b = true then .some (true, S1) else u e S1
def mNot (t : M Bool) : M Bool := fun e S => bnd (t e S) fun b S1 => .some (!b, S1)
def mIte (t : M Bool) (a b : M D) : M D := fun e S => bnd (t e S) fun c S1 => if c = true then a e S1 else b e S1
section
variable {K : W.Frag} {Wx : WX} {t u : TT} {p q : M Bool}
theorem snd_and (h : SndT K Wx t p) (h' : SndT K Wx u q) : SndT K Wx (tAnd t u) (mAnd p q) := by
  intro σ H Q e G ρ S he rs a
  refine h σ H _ e G ρ S he rs (Aft.imp (Aft.bind a) fun b S1 G1 H1 ρ1 g1 rs1 h1 => ?_)
  cases b with
  | true => exact h' σ H1 Q e G1 ρ1 S1 (he.mono g1.gr g1.pl) rs1 h1
  | false => exact h1 G1 H1 ρ1 Go.refl rs1
theorem snd_or (h : SndT K Wx t p) (h' : SndT K Wx u q) : SndT K Wx (tOr t u) (mOr p q) := by
  intro σ H Q e G ρ S he rs a
  refine h σ H _ e G ρ S he rs (Aft.imp (Aft.bind a) fun b S1 G1 H1 ρ1 g1 rs1 h1 => ?_)
  cases b with
  | false => exact h' σ H1 Q e G1 ρ1 S1 (he.mono g1.gr g1.pl) rs1 h1
  | true => exact h1 G1 H1 ρ1 Go.refl rs1
theorem snd_not (h : SndT K Wx t p) : SndT K Wx (tNot t) (mNot p) := by
  intro σ H Q e G ρ S he rs a
  exact h σ H _ e G ρ S he rs (Aft.imp (Aft.bind a) fun b S1 G1 H1 ρ1 g1 rs1 h1 => h1 G1 H1 ρ1 Go.refl rs1)
theorem snd_ite {ta tb : TE} {a b : M D} (h : SndT K Wx t p) (ha : SndE K Wx ta a) (hb : SndE K Wx tb b) : SndE K Wx (tIf t ta tb) (mIte p a b) := by
  intro σ H Q e G ρ S he rs z
  refine h σ H _ e G ρ S he rs (Aft.imp (Aft.bind z) fun c S1 G1 H1 ρ1 g1 rs1 h1 => ?_)
  cases c with
  | true => exact ha σ H1 Q e G1 ρ1 S1 (he.mono g1.gr g1.pl) rs1 h1
  | false => exact hb σ H1 Q e G1 ρ1 S1 (he.mono g1.gr g1.pl) rs1 h1
end
def PWB (X : Cx) (Wx : WX) (e : Expr) (m : M Bool) : Prop := ∃ t, PW X e t ∧ SndT X.K Wx t m
section
variable {X : Cx} {Wx : WX} {a b c : Expr} {rest : List Expr} {p q : M Bool} {ma mb : M D} {pos : Pos}
theorem pwb_and1 (h : PB X Wx a p) : PWB X Wx (.BoolOp .And [a] pos) p := by
  obtain ⟨t, h1, h2⟩ := h
  exact ⟨_, pw_and1 h1, h2⟩
theorem pwb_or1 (h : PB X Wx a p) : PWB X Wx (.BoolOp .Or [a] pos) p := by
  obtain ⟨t, h1, h2⟩ := h
  exact ⟨_, pw_or1 h1, h2⟩
theorem pwb_and (h : PB X Wx a p) (h' : PWB X Wx (.BoolOp .And (b :: rest) pos) q) : PWB X Wx (.BoolOp .And (a :: b :: rest) pos) (mAnd p q) := by
  obtain ⟨t, h1, h2⟩ := h
  obtain ⟨u, h3, h4⟩ := h'
  exact ⟨_, pw_and h1 h3, snd_and h2 h4⟩
theorem pwb_or (h : PB X Wx a p) (h' : PWB X Wx (.BoolOp .Or (b :: rest) pos) q) : PWB X Wx (.BoolOp .Or (a :: b :: rest) pos) (mOr p q) := by
  obtain ⟨t, h1, h2⟩ := h
  obtain ⟨u, h3, h4⟩ := h'
  exact ⟨_, pw_or h1 h3, snd_or h2 h4⟩
theorem PWB.pb (h : PWB X Wx a p) : PB X Wx a p := by
  obtain ⟨t, h1, h2⟩ := h
  exact ⟨_, h1.pt, h2⟩
theorem pb_not (h : PB X Wx a p) : PB X Wx (.UnaryOp .Not a pos) (mNot p) := by
  obtain ⟨t, h1, h2⟩ := h
  exact ⟨_, pt_not h1, snd_not h2⟩
theorem pd_ite (h : PB X Wx c p) (ha : PD X Wx a ma) (hb : PD X Wx b mb) : PD X Wx (.IfExp c a b pos) (mIte p ma mb) := by
  obtain ⟨t, h1, h2⟩ := h
  obtain ⟨u, h3, h4⟩ := ha
  obtain ⟨w, h5, h6⟩ := hb
  exact ⟨_, pe_ifExp h1 h3 h5, snd_ite h2 h4 h6⟩
/-- as values, by truth -/
def mOrV (a b : M D) : M D := fun e S => bnd (a e S) fun x S1 => match truD S1 x with
  | some true => .some (x, S1)
  | some false => b e S1
  | none => .none
def mAndV (a b : M D) : M D := fun e S => bnd (a e S) fun x S1 => match truD S1 x with
  | some false => .some (x, S1)
  | some true => b e S1
  | none => .none
def mNotV (a : M D) : M D := fun e S => bnd (a e S) fun x S1 => fin ((truD S1 x).map fun b => .bl (!b)) S1
theorem pd_one {op : BoolOp} (h : PD X Wx a ma) : PD X Wx (.BoolOp op [a] pos) ma := by
  obtain ⟨t, h1, h2⟩ := h
  exact ⟨_, pe_one h1, h2⟩
theorem pd_orV (ha : PD X Wx a ma) (hb : PD X Wx (.BoolOp .Or (b :: rest) pos) mb) : PD X Wx (.BoolOp .Or (a :: b :: rest) pos) (mOrV ma mb) := by
  obtain ⟨t, h1, h2⟩ := ha
  obtain ⟨u, h3, h4⟩ := hb
  refine ⟨_, pe_orT h1 h3, fun σ H Q e G ρ S he rs z => ?_⟩
  refine h2 σ H _ e G ρ S he rs (Aft.imp (Aft.bind z) fun x S1 G1 H1 ρ1 g1 rs1 k v rv => ?_)
  cases q : truD S1 x with
  | none => rw [q] at k; exact k.elim
  | some c =>
    rw [q] at k
    refine ⟨c, tru_rep rs1 rv q, ?_⟩
    cases c with
    | true => exact k G1 H1 ρ1 Go.refl rs1 v rv
    | false => exact h4 σ H1 Q e G1 ρ1 S1 (he.mono g1.gr g1.pl) rs1 k
theorem pd_andV (ha : PD X Wx a ma) (hb : PD X Wx (.BoolOp .And (b :: rest) pos) mb) : PD X Wx (.BoolOp .And (a :: b :: rest) pos) (mAndV ma mb) := by
  obtain ⟨t, h1, h2⟩ := ha
  obtain ⟨u, h3, h4⟩ := hb
  refine ⟨_, pe_andT h1 h3, fun σ H Q e G ρ S he rs z => ?_⟩
  refine h2 σ H _ e G ρ S he rs (Aft.imp (Aft.bind z) fun x S1 G1 H1 ρ1 g1 rs1 k v rv => ?_)
  cases q : truD S1 x with
  | none => rw [q] at k; exact k.elim
  | some c =>
    rw [q] at k
    refine ⟨c, tru_rep rs1 rv q, ?_⟩
    cases c with
    | false => exact k G1 H1 ρ1 Go.refl rs1 v rv
    | true => exact h4 σ H1 Q e G1 ρ1 S1 (he.mono g1.gr g1.pl) rs1 k
theorem pd_notV (ha : PD X Wx a ma) : PD X Wx (.UnaryOp .Not a pos) (mNotV ma) := by
  obtain ⟨t, h1, h2⟩ := ha
  refine ⟨_, pe_notT h1, fun σ H Q e G ρ S he rs z => ?_⟩
  refine h2 σ H _ e G ρ S he rs (Aft.imp (Aft.bind z) fun x S1 G1 H1 ρ1 g1 rs1 k v rv => ?_)
  obtain ⟨d, e1, h5⟩ := Aft.fin k
  cases q : truD S1 x with
  | none => rw [q] at e1; cases e1
  | some c =>
    rw [q] at e1
    have e2 : D.bl (!c) = d := Option.some.inj e1
    refine ⟨c, tru_rep rs1 rv q, h5 G1 H1 ρ1 Go.refl rs1 _ ?_⟩
    rw [← e2]
    exact rfl
end

/-! ### data compared -/
mutual
/-- data without owned parts, at most n deep, of proper texts -/
def okD : Nat → D → Bool
  | _, .non => true
  | _, .bl _ => true
  | _, .int _ => true
  | _, .str s => PyData.strOk s
  | n + 1, .tup l => okDs n l
  | n + 1, .lst l => okDs n l
  | n + 1, .scr l => okDs n l
  | _, _ => false
def okDs : Nat → List D → Bool
  | _, [] => true
  | n, d :: ds => okD n d && okDs n ds
end
mutual
def toPy : D → PyData
  | .non => .none
  | .bl b => .bool b
  | .int i => .int i
  | .str s => .str s
  | .tup l => .tuple (toPys l)
  | .lst l => .list (toPys l)
  | .scr l => .list (toPys l)
  | _ => .none
def toPys : List D → List PyData
  | [] => []
  | d :: ds => toPy d :: toPys ds
end
mutual
theorem toPy_lay : ∀ (n : Nat) (d : D), okD n d = true → (toPy d).canLay0 = true ∧ (toPy d).depth ≤ n
  | n, .non, h => ⟨by simp [toPy, PyData.canLay0], by simp [toPy, PyData.depth]⟩
  | n, .bl b, h => ⟨by simp [toPy, PyData.canLay0], by simp [toPy, PyData.depth]⟩
  | n, .int i, h => ⟨by simp [toPy, PyData.canLay0], by simp [toPy, PyData.depth]⟩
  | n, .str s, h => ⟨by simpa [toPy, PyData.canLay0, okD] using h, by simp [toPy, PyData.depth]⟩
  | 0, .tup l, h => by simp [okD] at h
  | 0, .lst l, h => by simp [okD] at h
  | 0, .scr l, h => by simp [okD] at h
  | n + 1, .tup l, h => by
    obtain ⟨a, b⟩ := toPys_lay n l (by simpa [okD] using h)
    exact ⟨by simpa [toPy, PyData.canLay0] using a, by simp [toPy, PyData.depth]; omega⟩
  | n + 1, .lst l, h => by
    obtain ⟨a, b⟩ := toPys_lay n l (by simpa [okD] using h)
    exact ⟨by simpa [toPy, PyData.canLay0] using a, by simp [toPy, PyData.depth]; omega⟩
  | n + 1, .scr l, h => by
    obtain ⟨a, b⟩ := toPys_lay n l (by simpa [okD] using h)
    exact ⟨by simpa [toPy, PyData.canLay0] using a, by simp [toPy, PyData.depth]; omega⟩
  | n, .ref m, h => by simp [okD] at h
  | n, .ty m, h => by simp [okD] at h
  | n, .adr m, h => by simp [okD] at h
theorem toPys_lay : ∀ (n : Nat) (ds : List D), okDs n ds = true → PyData.canLayAll0 (toPys ds) = true ∧ PyData.depthAll (toPys ds) ≤ n
  | n, [], h => ⟨by simp [toPys, PyData.canLayAll0], by simp [toPys, PyData.depthAll]⟩
  | n, d :: ds, h => by
    have h' : okD n d = true ∧ okDs n ds = true := by simpa [okDs] using h
    obtain ⟨a, b⟩ := toPy_lay n d h'.1
    obtain ⟨a', b'⟩ := toPys_lay n ds h'.2
    exact ⟨by simp [toPys, PyData.canLayAll0, a, a'], by simp [toPys, PyData.depthAll]; omega⟩
end
mutual
theorem dp_of {K : W.Frag} {G H : Hp} {ρ : List Addr} (g : GLe G H) : ∀ (n : Nat) (d : D) (v : V), okD n d = true → Rep K G ρ d v → Dp K H v (toPy d)
  | n, .non, v, h, r => by
    have r : v = .non := r
    rw [r]; simp only [toPy]; exact .non
  | n, .bl b, v, h, r => by
    have r : v = .bl b := r
    rw [r]; simp only [toPy]; exact .bl b
  | n, .int i, v, h, r => by
    have r : v = .int i := r
    rw [r]; simp only [toPy]; exact .int i
  | n, .str s, v, h, r => by
    have r : v = .str s := r
    rw [r]; simp only [toPy]; exact .str s
  | 0, .tup l, v, h, r => by simp [okD] at h
  | 0, .lst l, v, h, r => by simp [okD] at h
  | 0, .scr l, v, h, r => by simp [okD] at h
  | n + 1, .tup l, v, h, r => by
    obtain ⟨a, vs, e, h1, h2⟩ := r
    rw [e]; simp only [toPy]
    exact .tup (g.sqt h1) (dps_of g n l vs (by simpa [okD] using h) h2)
  | n + 1, .lst l, v, h, r => by
    obtain ⟨a, vs, e, h1, h2⟩ := r
    rw [e]; simp only [toPy]
    exact .lst (SqL.of (g _ _ h1)) (dps_of g n l vs (by simpa [okD] using h) h2)
  | n + 1, .scr l, v, h, r => by
    obtain ⟨a, vs, e, h1, h2⟩ := r
    rw [e]; simp only [toPy]
    exact .lst (g.sql h1) (dps_of g n l vs (by simpa [okD] using h) h2)
  | n, .ref m, v, h, r => by simp [okD] at h
  | n, .ty m, v, h, r => by simp [okD] at h
  | n, .adr m, v, h, r => by simp [okD] at h
theorem dps_of {K : W.Frag} {G H : Hp} {ρ : List Addr} (g : GLe G H) : ∀ (n : Nat) (ds : List D) (vs : List V), okDs n ds = true → Reps K G ρ ds vs → DpAll K H vs (toPys ds)
  | n, [], vs, h, r => by
    have r : vs = [] := r
    rw [r]; simp only [toPys]; exact .nil
  | n, d :: ds, vs, h, r => by
    have h' : okD n d = true ∧ okDs n ds = true := by simpa [okDs] using h
    obtain ⟨v, w, e, h1, h2⟩ := r
    rw [e]; simp only [toPys]
    exact .cons (dp_of g n d v h'.1 h1) (dps_of g n ds w h'.2 h2)
end
/-! == of data, bools and ints as Python has them -/
mutual
def eqD : D → D → Bool
  | .non, .non => true
  | .bl a, .bl b => a == b
  | .bl a, .int j => (if a then 1 else 0) == j
  | .int i, .bl b => i == (if b then 1 else 0)
  | .int i, .int j => i == j
  | .str x, .str y => x == y
  | .tup x, .tup y => eqDs x y
  | .lst x, .lst y => eqDs x y
  | .lst x, .scr y => eqDs x y
  | .scr x, .lst y => eqDs x y
  | .scr x, .scr y => eqDs x y
  | _, _ => false
def eqDs : List D → List D → Bool
  | [], [] => true
  | x :: xs, y :: ys => eqD x y && eqDs xs ys
  | _, _ => false
end
mutual
theorem eqv_toPy : ∀ (n m : Nat) (x y : D), okD n x = true → okD m y = true → PyData.eqv (toPy x) (toPy y) = eqD x y
  | n, m, .non, y, h, h' => by cases y <;> simp_all [toPy, eqD, PyData.eqv, okD]
  | n, m, .bl a, y, h, h' => by cases y <;> simp_all [toPy, eqD, PyData.eqv, okD]
  | n, m, .int a, y, h, h' => by cases y <;> simp_all [toPy, eqD, PyData.eqv, okD]
  | n, m, .str a, y, h, h' => by cases y <;> simp_all [toPy, eqD, PyData.eqv, okD]
  | 0, m, .tup l, y, h, h' => by simp [okD] at h
  | 0, m, .lst l, y, h, h' => by simp [okD] at h
  | 0, m, .scr l, y, h, h' => by simp [okD] at h
  | n + 1, m, .tup l, y, h, h' => by
    cases y <;> first
      | (simp only [toPy, eqD, PyData.eqv]; done)
      | (cases m with
         | zero => simp [okD] at h'
         | succ m => simp only [toPy, eqD, PyData.eqv]; exact eqvs_toPys n m l _ (by simpa [okD] using h) (by simpa [okD] using h'))
      | (simp [okD] at h')
  | n + 1, m, .lst l, y, h, h' => by
    cases y <;> first
      | (simp only [toPy, eqD, PyData.eqv]; done)
      | (cases m with
         | zero => simp [okD] at h'
         | succ m => simp only [toPy, eqD, PyData.eqv]; exact eqvs_toPys n m l _ (by simpa [okD] using h) (by simpa [okD] using h'))
      | (simp [okD] at h')
  | n + 1, m, .scr l, y, h, h' => by
    cases y <;> first
      | (simp only [toPy, eqD, PyData.eqv]; done)
      | (cases m with
         | zero => simp [okD] at h'
         | succ m => simp only [toPy, eqD, PyData.eqv]; exact eqvs_toPys n m l _ (by simpa [okD] using h) (by simpa [okD] using h'))
      | (simp [okD] at h')
  | n, m, .ref k, y, h, h' => by simp [okD] at h
  | n, m, .ty k, y, h, h' => by simp [okD] at h
  | n, m, .adr k, y, h, h' => by simp [okD] at h
theorem eqvs_toPys : ∀ (n m : Nat) (xs ys : List D), okDs n xs = true → okDs m ys = true → PyData.eqvAll (toPys xs) (toPys ys) = eqDs xs ys
  | n, m, [], [], h, h' => by simp [toPys, eqDs, PyData.eqvAll]
  | n, m, [], y :: ys, h, h' => by simp [toPys, eqDs, PyData.eqvAll]
  | n, m, x :: xs, [], h, h' => by simp [toPys, eqDs, PyData.eqvAll]
  | n, m, x :: xs, y :: ys, h, h' => by
    have h1 : okD n x = true ∧ okDs n xs = true := by simpa [okDs] using h
    have h2 : okD m y = true ∧ okDs m ys = true := by simpa [okDs] using h'
    simp only [toPys, eqDs, PyData.eqvAll]
    rw [eqv_toPy n m x y h1.1 h2.1, eqvs_toPys n m xs ys h1.2 h2.2]
end
/-- an owned list, looked at -/
def view (S : Store) : D → D
  | .ref n => (match S[n]? with
    | some (.lst l) => .lst l
    | _ => .ref n)
  | d => d
theorem view_dp {K : W.Frag} {G H : Hp} {ρ : List Addr} {S : Store} {x : D} {v : V} {n : Nat} (rs : RS K G H ρ S) (rx : Rep K G ρ x v) (h : okD n (view S x) = true) : Dp K H v (toPy (view S x)) := by
  cases x with
  | ref m =>
    cases q : S[m]? with
    | none =>
      have e : view S (.ref m) = .ref m := by simp [view, q]
      rw [e] at h
      simp [okD] at h
    | some o =>
      cases o with
      | dic l =>
        have e : view S (.ref m) = .ref m := by simp [view, q]
        rw [e] at h
        simp [okD] at h
      | dlk l =>
        have e : view S (.ref m) = .ref m := by simp [view, q]
        rw [e] at h
        simp [okD] at h
      | lst l =>
        have e : view S (.ref m) = .lst l := by simp [view, q]
        rw [e] at h ⊢
        obtain ⟨a, ev, h1⟩ := rx
        obtain ⟨vs, h2, h3⟩ := rs.obj m _ a q h1
        cases n with
        | zero => simp [okD] at h
        | succ n =>
          rw [ev]; simp only [toPy]
          exact .lst (SqL.of h2) (dps_of rs.sub n l vs (by simpa [okD] using h) h3)
  | _ => exact dp_of rs.sub n _ v h rx
def gEq : Store → D → D → Option D := fun S x y => if okD 60 (view S x) && okD 60 (view S y) then some (.bl (eqD (view S x) (view S y))) else none
def gNe : Store → D → D → Option D := fun S x y => if okD 60 (view S x) && okD 60 (view S y) then some (.bl (!eqD (view S x) (view S y))) else none
theorem shaped_of {n : Nat} {d : D} (hn : n ≤ 60) (h : okD n d = true) : SeqAt.shaped (toPy d) = true := by
  obtain ⟨a, b⟩ := toPy_lay n d h
  unfold SeqAt.shaped
  rw [a, Bool.true_and, decide_eq_true_eq]
  omega
theorem ops_eq {K : W.Frag} : OpS K (rEqD K) gEq := by
  intro G H ρ S x y v u Q rs rx ry d e k
  unfold gEq at e
  split at e
  · rename_i h
    rw [Bool.and_eq_true] at h
    have e1 := Option.some.inj e
    refine ⟨_, _, view_dp rs rx h.1, view_dp rs ry h.2, shaped_of (Nat.le_refl 60) h.1, shaped_of (Nat.le_refl 60) h.2, ?_⟩
    rw [eqv_toPy 60 60 _ _ h.1 h.2]
    exact k G H Go.refl rs _ (by rw [← e1]; exact rfl)
  · cases e
theorem ops_ne {K : W.Frag} : OpS K (rNeD K) gNe := by
  intro G H ρ S x y v u Q rs rx ry d e k
  unfold gNe at e
  split at e
  · rename_i h
    rw [Bool.and_eq_true] at h
    have e1 := Option.some.inj e
    refine ⟨_, _, view_dp rs rx h.1, view_dp rs ry h.2, shaped_of (Nat.le_refl 60) h.1, shaped_of (Nat.le_refl 60) h.2, ?_⟩
    rw [eqv_toPy 60 60 _ _ h.1 h.2]
    exact k G H Go.refl rs _ (by rw [← e1]; exact rfl)
  · cases e
/-- is None -/
def isNon : D → Bool
  | .non => true
  | _ => false
def gIsN : Store → D → D → Option D := fun _ x y => match y with
  | .non => some (.bl (isNon x))
  | _ => none
def gIsntN : Store → D → D → Option D := fun _ x y => match y with
  | .non => some (.bl (!isNon x))
  | _ => none
theorem isNon_rep {K : W.Frag} {G : Hp} {ρ : List Addr} {x : D} {v : V} (h : Rep K G ρ x v) : decide (v = .non) = isNon x := by
  cases x with
  | non => have h : v = .non := h; rw [h]; rfl
  | bl b => have h : v = .bl b := h; rw [h]; rfl
  | int b => have h : v = .int b := h; rw [h]; rfl
  | str b => have h : v = .str b := h; rw [h]; rfl
  | tup l => obtain ⟨a, vs, e, _⟩ := h; rw [e]; rfl
  | lst l => obtain ⟨a, vs, e, _⟩ := h; rw [e]; rfl
  | scr l => obtain ⟨a, vs, e, _⟩ := h; rw [e]; rfl
  | ref n => obtain ⟨a, e, _⟩ := h; rw [e]; rfl
  | ty n => have h : v = .ty n := h; rw [h]; rfl
  | adr n => have h : v = .ref n := h; rw [h]; rfl
theorem ops_isN {K : W.Frag} : OpS K (fun x y H Q => y = .non ∧ Q (.bl (decide (x = .non))) H) gIsN := by
  intro G H ρ S x y v u Q rs rx ry d e k
  unfold gIsN at e
  split at e
  · have hy : u = .non := ry
    refine ⟨hy, ?_⟩
    rw [isNon_rep rx]
    exact k G H Go.refl rs _ (by rw [← Option.some.inj e]; exact rfl)
  · cases e
theorem ops_isntN {K : W.Frag} : OpS K (fun x y H Q => y = .non ∧ Q (.bl (!decide (x = .non))) H) gIsntN := by
  intro G H ρ S x y v u Q rs rx ry d e k
  unfold gIsntN at e
  split at e
  · have hy : u = .non := ry
    refine ⟨hy, ?_⟩
    rw [isNon_rep rx]
    exact k G H Go.refl rs _ (by rw [← Option.some.inj e]; exact rfl)
  · cases e
end MD
set_option Elab.async false
set_option linter.all false
set_option maxRecDepth 100000
set_option maxHeartbeats 1000000
/-! in, isinstance, built-ins, dicts -/
namespace MD
open PySem PySem.Spec PyProof.Rows L2

/-! ### x in a tuple, a list -/
section
variable {X : Cx} {Wx : WX}
def rInT (K : PySem.W.Frag) : R2 := fun x y H Q => ∃ d ds, Dp K H x d ∧ Dp K H y (.tuple ds) ∧ SeqAt.shaped d = true ∧ SeqAt.shaped (.tuple ds) = true ∧ Q (.bl (ds.any fun z => PyData.eqv z d)) H
def rNotInT (K : PySem.W.Frag) : R2 := fun x y H Q => ∃ d ds, Dp K H x d ∧ Dp K H y (.tuple ds) ∧ SeqAt.shaped d = true ∧ SeqAt.shaped (.tuple ds) = true ∧ Q (.bl (!ds.any fun z => PyData.eqv z d)) H
theorem op_inT (hu : X.A.units + 65 < cLine) : OpR X (compareOp .In) (rInT X.K) := by
  intro pins s σ H x y v u Q I rx ry h
  obtain ⟨d, ds, hd, he, sd, se, q⟩ := h
  obtain ⟨as, r1⟩ := Dp.reads I d x v hd rx
  obtain ⟨bs, r2⟩ := Dp.reads I (.tuple ds) y u he ry
  exact SeqAt.in_tuple_reads r2 r1 (SeqAt.canLay_of_shaped se) (SeqAt.canLay_of_shaped sd) (room_in_shaped sd hu) ⟨.bl _, H, I, rfl, q⟩
theorem op_notInT (hu : X.A.units + 65 < cLine) : OpR X (compareOp .NotIn) (rNotInT X.K) := by
  intro pins s σ H x y v u Q I rx ry h
  obtain ⟨d, ds, hd, he, sd, se, q⟩ := h
  obtain ⟨as, r1⟩ := Dp.reads I d x v hd rx
  obtain ⟨bs, r2⟩ := Dp.reads I (.tuple ds) y u he ry
  exact SeqAt.notIn_tuple_reads r2 r1 (SeqAt.canLay_of_shaped se) (SeqAt.canLay_of_shaped sd) (room_in_shaped sd hu) ⟨.bl _, H, I, rfl, q⟩
def rInDic : R2 := fun y x H Q => ∃ a o, x = .ref a ∧ DGet H a y o ∧ Q (.bl o.isSome) H
def rNotInDic : R2 := fun y x H Q => ∃ a o, x = .ref a ∧ DGet H a y o ∧ Q (.bl (!o.isSome)) H
theorem op_inDic (hu : X.A.units + 1 < cLine) : OpR X (compareOp .In) rInDic := by
  intro pins s σ H y x iv u Q I ry rx h
  obtain ⟨a, ov, ex, g, q⟩ := h
  subst ex
  obtain rfl : u = Value.ref a := rx
  exact d_in hu I g ry fun s3 I3 => ⟨.bl ov.isSome, H, I3, rfl, q⟩
theorem op_notInDic (hu : X.A.units + 1 < cLine) : OpR X (compareOp .NotIn) rNotInDic := by
  intro pins s σ H y x iv u Q I ry rx h
  obtain ⟨a, ov, ex, g, q⟩ := h
  subst ex
  obtain rfl : u = Value.ref a := rx
  exact d_notIn hu I g ry fun s3 I3 => ⟨.bl (!ov.isSome), H, I3, rfl, q⟩
def rIxDic : R2 := fun x y H Q => ∃ a v, x = .ref a ∧ DGet H a y (some v) ∧ Q v H
theorem ix_dic (hu : X.A.units + 1 < cLine) : IxR X rIxDic := by
  intro value slice pins s σ H x y v u Q I rx ry h hs
  obtain ⟨a, w, ex, g, q⟩ := h
  subst ex
  obtain rfl : v = Value.ref a := rx
  exact tail_any (dict_typeIs I g) PySem.F.slot_dict_getitem.lookup (d_getItem hu I g ry fun w' s3 I3 rw' => ⟨w, H, I3, rw', q⟩) hs
end
def anyEq (x : D) (l : List D) : Bool := l.any fun z => eqD z x
theorem any_toPys {n m : Nat} {x : D} (hx : okD n x = true) : ∀ {l : List D}, okDs m l = true → ((toPys l).any fun z => PyData.eqv z (toPy x)) = anyEq x l
  | [], h => by simp [toPys, anyEq]
  | d :: l, h => by
    have h' : okD m d = true ∧ okDs m l = true := by simpa [okDs] using h
    have ih := any_toPys hx h'.2
    unfold anyEq at ih ⊢
    simp only [toPys, List.any_cons]
    rw [eqv_toPy m n d x h'.1 hx, ih]
/-- a dict's key -/
def keyOf : D → Option Key
  | .int i => some (.inl i)
  | .str s => some (.inr s)
  | _ => none
def dicOf (S : Store) : D → Option (List (Key × D))
  | .ref n => (match S[n]? with
    | some (.dic l) => some l
    | some (.dlk l) => some l
    | _ => none)
  | _ => none
def inD (S : Store) (x y : D) : Option Bool := match dicOf S y with
  | some l => (keyOf x).map fun k => l.any fun p => decide (p.1 = k)
  | none => match view S y with
    | .tup l => if okD 58 x && okDs 58 l then some (anyEq x l) else none
    | .lst l => if okD 58 x && okDs 58 l then some (anyEq x l) else none
    | .str s => (match x with
      | .str t => (match t.cps.toList with
        | [c] => some (decide (c ∈ s.cps.toList))
        | _ => none)
      | _ => none)
    | _ => none
def gIn : Store → D → D → Option D := fun S x y => (inD S x y).map .bl
def gNin : Store → D → D → Option D := fun S x y => (inD S x y).map fun b => .bl (!b)
section
variable {K : W.Frag} {G H : Hp} {ρ : List Addr} {S : Store}
theorem keyOf_rep {x : D} {v : V} {k : Key} (r : Rep K G ρ x v) (h : keyOf x = some k) : v = kV k := by
  unfold keyOf at h
  split at h
  · have r : v = .int _ := r
    rw [r, ← Option.some.inj h]; rfl
  · have r : v = .str _ := r
    rw [r, ← Option.some.inj h]; rfl
  · cases h
theorem KRep.valV {l : List (Key × D)} {kvs : List (Key × V)} (h : KRep K G ρ l kvs) (k : Key) : match (l.find? fun p => decide (p.1 = k)) with
    | none => L2.valV kvs k = none
    | some p => ∃ v, L2.valV kvs k = some v ∧ Rep K G ρ p.2 v := by
  induction h with
  | nil => exact rfl
  | @cons p q l m hp t ih =>
    by_cases e : p.1 = k
    · have e2 : q.1 = k := hp.1.symm.trans e
      rw [List.find?_cons_of_pos (by simpa using e)]
      refine ⟨q.2, ?_, hp.2⟩
      unfold L2.valV
      rw [List.find?_cons_of_pos (by simpa using e2)]
      rfl
    · have e2 : ¬ q.1 = k := fun z => e (hp.1.trans z)
      rw [List.find?_cons_of_neg (by simpa using e)]
      unfold L2.valV at ih ⊢
      rw [List.find?_cons_of_neg (by simpa using e2)]
      exact ih
theorem dicOf_rep {x : D} {v : V} {l : List (Key × D)} (rs : RS K G H ρ S) (r : Rep K G ρ x v) (h : dicOf S x = some l) : ∃ a kvs, v = .ref a ∧ a ∈ ρ ∧ Rd H a (.dK kvs) ∧ KRep K G ρ l kvs := by
  unfold dicOf at h
  split at h
  · rename_i n
    split at h
    · rename_i l0 hn
      obtain ⟨a, e, h1⟩ := r
      obtain ⟨kvs, h2, h3⟩ := rs.obj n _ a hn h1
      rw [← Option.some.inj h]
      exact ⟨a, kvs, e, List.mem_of_getElem? h1, .inl h2, h3⟩
    · rename_i l0 hn
      obtain ⟨a, e, h1⟩ := r
      obtain ⟨kvs, ⟨o, h2⟩, h3⟩ := rs.obj n _ a hn h1
      rw [← Option.some.inj h]
      exact ⟨a, kvs, e, List.mem_of_getElem? h1, .inr ⟨o, h2⟩, h3⟩
    · cases h
  · cases h
theorem any_find {α : Type} (l : List α) (p : α → Bool) : l.any p = (l.find? p).isSome := by
  induction l with
  | nil => rfl
  | cons x l ih =>
    rw [List.any_cons]
    by_cases h : p x = true
    · rw [List.find?_cons_of_pos h, h]; rfl
    · rw [List.find?_cons_of_neg h, ih]
      simp only [h, Bool.false_or]
def rInAll (K : W.Frag) : R2 := fun x y H Q => (rInDic x y H Q ∨ rInT K x y H Q) ∨ (rInD K x y H Q ∨ (∃ (c : Nat) (z : Str), x = .str ⟨#[c]⟩ ∧ y = .str z ∧ Q (.bl (decide (c ∈ z.cps.toList))) H))
def rNinAll (K : W.Frag) : R2 := fun x y H Q => (rNotInDic x y H Q ∨ rNotInT K x y H Q) ∨ (rNotInD K x y H Q ∨ (∃ (c : Nat) (z : Str), x = .str ⟨#[c]⟩ ∧ y = .str z ∧ Q (.bl (!decide (c ∈ z.cps.toList))) H))
theorem okDs_tup {n : Nat} {l : List D} (h : okDs n l = true) : okD (n + 1) (.tup l) = true := by simpa [okD] using h
theorem okDs_lst {n : Nat} {l : List D} (h : okDs n l = true) : okD (n + 1) (.lst l) = true := by simpa [okD] using h
theorem inD_all {x y : D} {v u : V} {b : Bool} (rs : RS K G H ρ S) (rx : Rep K G ρ x v) (ry : Rep K G ρ y u) (h : inD S x y = some b) :
    (∃ a o, u = .ref a ∧ DGet H a v o ∧ o.isSome = b) ∨ (∃ d ds, Dp K H v d ∧ (Dp K H u (.tuple ds) ∧ SeqAt.shaped (.tuple ds) = true ∨ Dp K H u (.list ds) ∧ SeqAt.shaped (.list ds) = true) ∧ SeqAt.shaped d = true ∧ (ds.any fun z => PyData.eqv z d) = b) ∨
      (∃ (c : Nat) (z : Str), v = .str ⟨#[c]⟩ ∧ u = .str z ∧ decide (c ∈ z.cps.toList) = b) := by
  unfold inD at h
  split at h
  · rename_i l hl
    obtain ⟨a, kvs, e, _, h1, h2⟩ := dicOf_rep rs ry hl
    cases hk : keyOf x with
    | none => rw [hk] at h; cases h
    | some k =>
      rw [hk] at h
      have hb : (l.any fun p => decide (p.1 = k)) = b := Option.some.inj h
      have q := h2.valV k
      refine .inl ⟨a, valV kvs k, e, ?_, ?_⟩
      · rw [keyOf_rep rx hk]
        exact .inl ⟨_, _, h1, rfl, rfl⟩
      · rw [← hb, any_find]
        cases z : l.find? (fun p => decide (p.1 = k)) with
        | none => rw [z] at q; rw [q]; rfl
        | some p => rw [z] at q; obtain ⟨w, q1, _⟩ := q; rw [q1]; rfl
  · split at h
    · rename_i l hl
      split at h
      · rename_i hc
        rw [Bool.and_eq_true] at hc
        have hb : anyEq x l = b := Option.some.inj h
        refine .inr (.inl ⟨toPy x, toPys l, dp_of rs.sub 58 x v hc.1 rx, .inl ⟨?_, ?_⟩, shaped_of (by decide) hc.1, ?_⟩)
        · have := view_dp (n := 59) rs ry (by rw [hl]; exact okDs_tup hc.2)
          rw [hl] at this
          simpa [toPy] using this
        · have := shaped_of (n := 59) (by decide) (okDs_tup hc.2)
          simpa [toPy] using this
        · rw [any_toPys hc.1 hc.2]; exact hb
      · cases h
    · rename_i l hl
      split at h
      · rename_i hc
        rw [Bool.and_eq_true] at hc
        have hb : anyEq x l = b := Option.some.inj h
        refine .inr (.inl ⟨toPy x, toPys l, dp_of rs.sub 58 x v hc.1 rx, .inr ⟨?_, ?_⟩, shaped_of (by decide) hc.1, ?_⟩)
        · have := view_dp (n := 59) rs ry (by rw [hl]; exact okDs_lst hc.2)
          rw [hl] at this
          simpa [toPy] using this
        · have := shaped_of (n := 59) (by decide) (okDs_lst hc.2)
          simpa [toPy] using this
        · rw [any_toPys hc.1 hc.2]; exact hb
      · cases h
    · rename_i s hl
      split at h
      · rename_i t
        split at h
        · rename_i c hc
          have hv : v = .str t := rx
          have ht : t = ⟨#[c]⟩ := by
            obtain ⟨arr⟩ := t
            congr
            apply Array.ext'
            simpa using hc
          have hy : y = .str s := by
            cases y with
            | ref n =>
              unfold view at hl
              split at hl
              · split at hl <;> cases hl
              · rename_i hne; exact absurd rfl (hne n)
            | _ => exact hl
          have hu : u = .str s := by rw [hy] at ry; exact ry
          exact .inr (.inr ⟨c, s, by rw [hv, ht], hu, Option.some.inj h⟩)
        · cases h
      · cases h
    · cases h
theorem ops_in : OpS K (rInAll K) gIn := by
  intro G H ρ S x y v u Q rs rx ry d e k
  unfold gIn at e
  cases h : inD S x y with
  | none => rw [h] at e; cases e
  | some b =>
    rw [h] at e
    have e1 : D.bl b = d := Option.some.inj e
    have q : Q (.bl b) H := k G H Go.refl rs _ (by rw [← e1]; exact rfl)
    rcases inD_all rs rx ry h with ⟨a, o, h1, h2, h3⟩ | ⟨p, ps, h1, h2, h3, h4⟩ | ⟨c, z, h1, h2, h3⟩
    · exact .inl (.inl ⟨a, o, h1, h2, by rw [h3]; exact q⟩)
    · rcases h2 with ⟨h2, h5⟩ | ⟨h2, h5⟩
      · exact .inl (.inr ⟨p, ps, h1, h2, h3, h5, by rw [h4]; exact q⟩)
      · exact .inr (.inl ⟨p, ps, h1, h2, h3, h5, by rw [h4]; exact q⟩)
    · exact .inr (.inr ⟨c, z, h1, h2, by rw [h3]; exact q⟩)
theorem ops_nin : OpS K (rNinAll K) gNin := by
  intro G H ρ S x y v u Q rs rx ry d e k
  unfold gNin at e
  cases h : inD S x y with
  | none => rw [h] at e; cases e
  | some b =>
    rw [h] at e
    have e1 : D.bl (!b) = d := Option.some.inj e
    have q : Q (.bl (!b)) H := k G H Go.refl rs _ (by rw [← e1]; exact rfl)
    rcases inD_all rs rx ry h with ⟨a, o, h1, h2, h3⟩ | ⟨p, ps, h1, h2, h3, h4⟩ | ⟨c, z, h1, h2, h3⟩
    · exact .inl (.inl ⟨a, o, h1, h2, by rw [h3]; exact q⟩)
    · rcases h2 with ⟨h2, h5⟩ | ⟨h2, h5⟩
      · exact .inl (.inr ⟨p, ps, h1, h2, h3, h5, by rw [h4]; exact q⟩)
      · exact .inr (.inl ⟨p, ps, h1, h2, h3, h5, by rw [h4]; exact q⟩)
    · exact .inr (.inr ⟨c, z, h1, h2, by rw [h3]; exact q⟩)
end
theorem op_notIn_sign {X : Cx} : OpR X (compareOp .NotIn) (fun x y H Q => ∃ (c : Nat) (z : Str), x = .str ⟨#[c]⟩ ∧ y = .str z ∧ Q (.bl (!decide (c ∈ z.cps.toList))) H) := by
  intro pins s σ H x y v u Q I rx ry h
  obtain ⟨c, z, h1, h2, q⟩ := h
  exact L2.op_notIn_sign pins s σ H x y v u Q I rx ry ⟨c, z, h1, h2, q⟩
theorem op_inAll {X : Cx} (hu : X.A.units + 65 < cLine) : OpR X (compareOp .In) (rInAll X.K) := ((op_inDic (by omega)).or (op_inT hu)).or ((op_inD hu).or op_in_sign)
theorem op_ninAll {X : Cx} (hu : X.A.units + 65 < cLine) : OpR X (compareOp .NotIn) (rNinAll X.K) := ((op_notInDic (by omega)).or (op_notInT hu)).or ((op_notInD hu).or op_notIn_sign)
end MD
set_option Elab.async false
set_option linter.all false
set_option maxRecDepth 100000
set_option maxHeartbeats 1000000
/-! subscripts, isinstance, built-ins by name, methods -/
namespace MD
open PySem PySem.Spec PyProof.Rows L2

def gSub : Store → D → D → Option D := fun S x y => match dicOf S x with
  | some l => (keyOf y).bind fun k => (l.find? fun p => decide (p.1 = k)).map (·.2)
  | none => match x with
    | .str s => (match y with
      | .int i => if s.length ≤ sizeLine then (atI s.cps.toList i).map fun c => .str ⟨#[c]⟩ else none
      | _ => none)
    | x => gIx S x y
def rSubA (K : W.Frag) : R2 := fun x y H Q => rIxDic x y H Q ∨ rIx K x y H Q
theorem ops_sub {K : W.Frag} : OpS K (rSubA K) gSub := by
  intro G H ρ S x y v u Q rs rx ry d e k
  unfold gSub at e
  split at e
  · rename_i l hl
    obtain ⟨a, kvs, ev, _, h1, h2⟩ := dicOf_rep rs rx hl
    cases hk : keyOf y with
    | none => rw [hk] at e; cases e
    | some key =>
      rw [hk] at e
      have q := h2.valV key
      have e : (l.find? fun p => decide (p.1 = key)).map (·.2) = some d := e
      cases z : l.find? (fun p => decide (p.1 = key)) with
      | none => rw [z] at e; cases e
      | some p =>
        rw [z] at e q
        obtain ⟨w, q1, q2⟩ := q
        have ed : p.2 = d := Option.some.inj e
        rw [ed] at q2
        refine .inl ⟨a, w, ev, ?_, k G H Go.refl rs w q2⟩
        rw [keyOf_rep ry hk, ← q1]
        exact .inl ⟨_, _, h1, rfl, rfl⟩
  · cases x with
    | str s =>
      cases y with
      | int i =>
        have e : (if s.length ≤ sizeLine then (atI s.cps.toList i).map fun c => D.str ⟨#[c]⟩ else none) = some d := e
        split at e
        · rename_i hz
          cases hc : atI s.cps.toList i with
          | none => rw [hc] at e; cases e
          | some c =>
            rw [hc] at e
            have ed : D.str ⟨#[c]⟩ = d := Option.some.inj e
            have hv : v = .str s := rx
            have hy : u = .int i := ry
            exact .inr (.inr (.inr ⟨s, i, c, hv, hy, hz, hc, k G H Go.refl rs _ (by rw [← ed]; exact rfl)⟩))
        · cases e
      | _ => cases e
    | _ => exact .inr (ops_ix G H ρ S _ y v u Q rs rx ry d e k)
section
variable {X : Cx} {Wx : WX} {a b : Expr} {ma mb : M D} {pos : Pos}
theorem pd_sub (hu : X.A.units + 65 < cLine) (ha : PD X Wx a ma) (hb : PD X Wx b mb) (hs : PlainIx b := by exact fun _ _ => rfl) : PD X Wx (.Subscript a b pos) (mOp2 gSub ma mb) := by
  obtain ⟨t, h1, h2⟩ := ha
  obtain ⟨u, h3, h4⟩ := hb
  exact ⟨_, pe_ix ((ix_dic (by omega)).or ix_seq) h1 h3 hs, snd_op2 ops_sub h2 h4⟩
end

/-! ### isinstance with built-in types -/
def tyName (S : Store) : D → Option String
  | .non => some "NoneType"
  | .bl _ => some "bool"
  | .int _ => some "int"
  | .str _ => some "str"
  | .tup _ => some "tuple"
  | .lst _ => some "list"
  | .scr _ => some "list"
  | .ref n => match S[n]? with
    | some (.lst _) => some "list"
    | some (.dic _) => some "dict"
    | _ => none
  | _ => none
theorem tyName_rep {K : W.Frag} {G H : Hp} {ρ : List Addr} {S : Store} {x : D} {v : V} {n : String} (rs : RS K G H ρ S) (rx : Rep K G ρ x v) (h : tyName S x = some n) : TyX K H v (.type n) := by
  cases x with
  | non => have rx : v = .non := rx; have h := Option.some.inj h; subst h; rw [rx]; exact .base .non
  | bl b => have rx : v = .bl b := rx; have h := Option.some.inj h; subst h; rw [rx]; exact .base (.bl b)
  | int i => have rx : v = .int i := rx; have h := Option.some.inj h; subst h; rw [rx]; exact .base (.int i)
  | str s => have rx : v = .str s := rx; have h := Option.some.inj h; subst h; rw [rx]; exact .base (.str s)
  | tup l =>
    obtain ⟨a, vs, e, h1, _⟩ := rx
    have h := Option.some.inj h
    subst h
    rw [e]
    rcases rs.sub.sqt h1 with (h2 | ⟨o, h2⟩) | ⟨o, its, m, h2, h3, _⟩
    · exact .base (.tup h2)
    · exact .fTuple h2
    · exact .kTuple h2 h3
  | lst l =>
    obtain ⟨a, vs, e, h1, _⟩ := rx
    have h := Option.some.inj h
    subst h
    rw [e]
    exact .base (.lst (rs.sub _ _ h1))
  | scr l =>
    obtain ⟨a, vs, e, h1, _⟩ := rx
    have h := Option.some.inj h
    subst h
    rw [e]
    rcases rs.sub.sql h1 with (h2 | ⟨o, h2⟩) | ⟨o, its, m, h2, h3, _⟩
    · exact .base (.lst h2)
    · exact .base (.frz h2)
    · exact .kList h2 h3
  | ref m =>
    obtain ⟨a, e, h1⟩ := rx
    cases q : S[m]? with
    | none => simp [tyName, q] at h
    | some o =>
      cases o with
      | lst l =>
        have h : "list" = n := by simpa [tyName, q] using h
        subst h
        obtain ⟨vs, h2, _⟩ := rs.obj m _ a q h1
        rw [e]
        exact .base (.lst h2)
      | dic l =>
        have h : "dict" = n := by simpa [tyName, q] using h
        subst h
        obtain ⟨vs, h2, _⟩ := rs.obj m _ a q h1
        rw [e]
        exact .base (.dK h2)
      | dlk l => simp [tyName, q] at h
  | ty m => cases h
  | adr m => cases h
/-- what isinstance says of two built-in types -/
def isT (a b : String) : Bool := a == b || (a == "bool" && b == "int")
def kitOk (a b : String) : Bool := decide (kitB a b = some (isT a b))
def gIsi : Store → List D → Option D := fun S xs => match xs with
  | [x, .ty b] => (match tyName S x with
    | some a => if kitOk a b then some (.bl (isT a b)) else none
    | none => none)
  | _ => none
theorem cas_isi {K : W.Frag} : CaS K (rIsi K) gIsi := by
  intro G H ρ S xs vs Q rs rx d e k
  unfold gIsi at e
  split at e
  · rename_i x b
    obtain ⟨v, r, e0, rv, w, r2, e1, rw, e2⟩ := rx
    have e2 : r2 = [] := e2
    have rw : w = .ty b := rw
    subst e2 e1 rw
    split at e
    · rename_i a ha
      split at e
      · rename_i hk
        have hk : kitB a b = some (isT a b) := of_decide_eq_true hk
        refine ⟨v, .ty b, .type a, .type b, isT a b, e0, .ty b, tyName_rep rs rv ha, kit_ty hk, k G H Go.refl rs _ ?_⟩
        rw [← Option.some.inj e]
        exact rfl
      · cases e
    · cases e
  · cases e
/-- isinstance(x, (T, U, ..)) -/
def isTs (a : String) : List String → Option Bool
  | [] => some false
  | b :: bs => if kitOk a b then (if isT a b then some true else isTs a bs) else none
theorem isTs_kit {K : W.Frag} {a : String} : ∀ {bs : List String} {r : Bool}, isTs a bs = some r → W.kitAny K (.type a) (bs.map Value.type) = some r
  | [], r, h => by
    rw [← Option.some.inj h]
    exact kitAny_nil
  | b :: bs, r, h => by
    unfold isTs at h
    split at h
    · rename_i hk
      have hk : kitB a b = some (isT a b) := of_decide_eq_true hk
      refine kitAny_cons (b := isT a b) (kit_ty hk) (fun hb => ?_) (fun hb => ?_)
      · rw [hb, if_neg Bool.false_ne_true] at h
        exact isTs_kit h
      · rw [hb, if_pos rfl] at h
        exact (Option.some.inj h).symm
    · cases h
def tTys (ns : List String) : TA := fun _ H Q => Q (ns.map V.ty) H
section
variable {X : Cx} {Wx : WX}
theorem pe_tyN {x : Str} {n : String} {pos : Pos} (hg : Gl X x) (hm : X.mg x = none) (hv : bootBuiltins x = some (.type n)) (hn : x ≠ "__name__" := by decide) (hd : (x == ("__debug__" : Str)) = false := by decide) : PE X (.Name x pos) (tC (.ty n)) := pe_bltn (v := .ty n) hg hm hv rfl hn hd
theorem pd_tyN {x : Str} {n : String} {pos : Pos} (hg : Gl X x) (hm : X.mg x = none) (hv : bootBuiltins x = some (.type n)) (hn : x ≠ "__name__" := by decide) (hd : (x == ("__debug__" : Str)) = false := by decide) : PD X Wx (.Name x pos) (mC (.ty n)) :=
  ⟨_, pe_bltn (v := .ty n) hg hm hv rfl hn hd, snd_c (fun _ _ _ h => h) (fun _ _ => rfl)⟩
theorem pa_tys_nil : PA X [] (tTys []) := pa_nil
theorem pa_tys_cons {e : Expr} {es : List Expr} {n : String} {ns : List String} (h : PE X e (tC (.ty n))) (hr : PA X es (tTys ns)) (hs : starEach (e :: es) X.env = (false, eval e X.env) :: starEach es X.env := by rfl) : PA X (e :: es) (tTys (n :: ns)) := pa_cons h hr hs
def mIsiT (m : M D) (ns : List String) : M D := fun e S => bnd (m e S) fun x S1 => match tyName S1 x with
  | some a => fin ((isTs a ns).map .bl) S1
  | none => .none
theorem paired_ty : ∀ ns : List String, Paired ClsV (ns.map V.ty) (ns.map Value.type)
  | [] => .nil
  | n :: ns => .cons (.ty n) (paired_ty ns)
theorem pd_isiT {e : Expr} {es : List Expr} {x1 : Nat} {p pos tpos : Pos} {m : M D} {ns : List String} (hg : Gl X "isinstance") (hm : X.mg "isinstance" = none) (h : PD X Wx e m) (ht : PA X es (tTys ns)) (hz : ns.length ≤ 100 := by decide)
    (he : starEach (e :: [.Tuple es x1 tpos]) X.env = (false, eval e X.env) :: starEach [.Tuple es x1 tpos] X.env := by rfl) (hpl : (backTo pos (starEach [.Tuple es x1 tpos] X.env)).any (·.1) = false := by rfl) :
    PD X Wx (.Call (.Name "isinstance" p) [e, .Tuple es x1 tpos] [] pos) (mIsiT m ns) := by
  obtain ⟨t, h1, h2⟩ := h
  refine ⟨_, pe_callB call_isiT hg hm (by decide +kernel) (pa_cons h1 (pa_cons (pe_tup ht) pa_nil) he) (by decide) (by decide) he hpl, fun σ H Q e G ρ S he rs z => ?_⟩
  refine h2 σ H _ e G ρ S he rs (Aft.imp (Aft.bind z) fun x S1 G1 H1 ρ1 g1 rs1 k v rv => ?_)
  have hz2 : (ns.map V.ty).length ≤ sizeLine := by rw [List.length_map]; exact Nat.le_trans hz (by decide)
  refine ⟨hz2, fun q hq => ?_⟩
  split at k
  · rename_i a ha
    obtain ⟨d, e1, k2⟩ := Aft.fin k
    cases hr : isTs a ns with
    | none => rw [hr] at e1; cases e1
    | some b =>
      rw [hr] at e1
      have rs2 := rs1.hide hq (.tup (ns.map V.ty))
      refine ⟨v, q, ns.map V.ty, .type a, ns.map Value.type, b, rfl, upd_same, paired_ty ns, tyName_rep rs2 rv ha, isTs_kit hr, ?_⟩
      exact k2 G1 _ ρ1 (Go.hide hq _) rs2 _ (by rw [← Option.some.inj e1]; exact rfl)
  · exact k.elim
/-! ### built-ins by name -/
section
variable {e : Expr} {es : List Expr} {m : M (List D)} {x : Str} {id : String} {r : List V → Hp → VK → Prop} {g : Store → List D → Option D} {p pos : Pos}
theorem pd_callB (hc : CallR X (.builtin id) r) (o : CaS X.K r g) (hg : Gl X x) (hm : X.mg x = none) (ha : PAs X Wx (e :: es) m) (hv : bootBuiltins x = some (.builtin id) := by decide +kernel) (hn : x ≠ "__name__" := by decide) (hdb : (x == ("__debug__" : Str)) = false := by decide)
    (he : starEach (e :: es) X.env = (false, eval e X.env) :: starEach es X.env := by rfl) (hpl : (backTo pos (starEach es X.env)).any (·.1) = false := by rfl) : PD X Wx (.Call (.Name x p) (e :: es) [] pos) (mOpN g m) := by
  obtain ⟨t, h1, h2⟩ := ha
  exact ⟨_, pe_callB hc hg hm hv h1 hn hdb he hpl, snd_opN o h2⟩
theorem pd_callTy (hc : CallR X (.type id) r) (o : CaS X.K r g) (hg : Gl X x) (hm : X.mg x = none) (ha : PAs X Wx (e :: es) m) (hv : bootBuiltins x = some (.type id) := by decide +kernel) (hn : x ≠ "__name__" := by decide) (hdb : (x == ("__debug__" : Str)) = false := by decide)
    (he : starEach (e :: es) X.env = (false, eval e X.env) :: starEach es X.env := by rfl) (hpl : (backTo pos (starEach es X.env)).any (·.1) = false := by rfl) : PD X Wx (.Call (.Name x p) (e :: es) [] pos) (mOpN g m) := by
  obtain ⟨t, h1, h2⟩ := ha
  exact ⟨_, pe_callTy hc hg hm hv h1 hn hdb he hpl, snd_opN o h2⟩
/-- a call that gives a new list -/
def CaL (K : W.Frag) (r : List V → Hp → VK → Prop) (g : Store → List D → Option (List D)) : Prop := ∀ (G H : Hp) (ρ : List Addr) (S : Store) (xs : List D) (vs : List V) (Q : VK), RS K G H ρ S → Reps K G ρ xs vs →
  ∀ l, g S xs = some l → (∀ p ws, H p = none → Reps K G ρ l ws → Q (.ref p) (upd H p (.lst ws))) → r vs H Q
def mCaL (g : Store → List D → Option (List D)) (a : M (List D)) : M (List D) := fun e S => bnd (a e S) fun x S1 => fin (g S1 x) S1
theorem sndL_opN {K : W.Frag} {r : List V → Hp → VK → Prop} {g : Store → List D → Option (List D)} {ta : TA} {ma : M (List D)} (o : CaL K r g) (ha : SndA K Wx ta ma) : SndL K Wx (tCB r ta) (mCaL g ma) := by
  intro σ H Q e G ρ S he rs h
  refine ha σ H _ e G ρ S he rs (Aft.imp (Aft.bind h) fun x S1 G1 H1 ρ1 g1 rs1 h1 v rv => ?_)
  obtain ⟨d, e1, h3⟩ := Aft.fin h1
  exact o G1 H1 ρ1 S1 x v Q rs1 rv d e1 fun q ws hq rw => h3 G1 H1 ρ1 Go.refl rs1 q ws hq rw
theorem pl_callB {g : Store → List D → Option (List D)} (hc : CallR X (.builtin id) r) (o : CaL X.K r g) (hg : Gl X x) (hm : X.mg x = none) (ha : PAs X Wx (e :: es) m) (hv : bootBuiltins x = some (.builtin id) := by decide +kernel) (hn : x ≠ "__name__" := by decide) (hdb : (x == ("__debug__" : Str)) = false := by decide)
    (he : starEach (e :: es) X.env = (false, eval e X.env) :: starEach es X.env := by rfl) (hpl : (backTo pos (starEach es X.env)).any (·.1) = false := by rfl) : PL X Wx (.Call (.Name x p) (e :: es) [] pos) (mCaL g m) := by
  obtain ⟨t, h1, h2⟩ := ha
  exact ⟨_, pe_callB hc hg hm hv h1 hn hdb he hpl, sndL_opN o h2⟩
theorem pl_callTy {g : Store → List D → Option (List D)} (hc : CallR X (.type id) r) (o : CaL X.K r g) (hg : Gl X x) (hm : X.mg x = none) (ha : PAs X Wx (e :: es) m) (hv : bootBuiltins x = some (.type id) := by decide +kernel) (hn : x ≠ "__name__" := by decide) (hdb : (x == ("__debug__" : Str)) = false := by decide)
    (he : starEach (e :: es) X.env = (false, eval e X.env) :: starEach es X.env := by rfl) (hpl : (backTo pos (starEach es X.env)).any (·.1) = false := by rfl) : PL X Wx (.Call (.Name x p) (e :: es) [] pos) (mCaL g m) := by
  obtain ⟨t, h1, h2⟩ := ha
  exact ⟨_, pe_callTy hc hg hm hv h1 hn hdb he hpl, sndL_opN o h2⟩
end
end
section
variable {K : W.Frag}
theorem Reps.one_of {G : Hp} {ρ : List Addr} {x : D} {vs : List V} (h : Reps K G ρ [x] vs) : ∃ v, vs = [v] ∧ Rep K G ρ x v := by
  obtain ⟨v, r, e, h1, h2⟩ := h
  have h2 : r = [] := h2
  subst h2
  exact ⟨v, e, h1⟩
theorem Reps.two_of {G : Hp} {ρ : List Addr} {x y : D} {vs : List V} (h : Reps K G ρ [x, y] vs) : ∃ v u, vs = [v, u] ∧ Rep K G ρ x v ∧ Rep K G ρ y u := by
  obtain ⟨v, r, e, h1, h2⟩ := h
  obtain ⟨u, e2, h3⟩ := Reps.one_of h2
  subst e2
  exact ⟨v, u, e, h1, h3⟩
def gAbs : Store → List D → Option D := fun _ xs => match xs with
  | [.int i] => some (.int (if i < 0 then -i else i))
  | _ => none
theorem cas_abs : CaS K (fun xs H Q => ∃ i, xs = [.int i] ∧ Q (.int (if i < 0 then -i else i)) H) gAbs := by
  intro G H ρ S xs vs Q rs rx d e k
  unfold gAbs at e
  split at e
  · rename_i i
    obtain ⟨v, e0, rv⟩ := rx.one_of
    have rv : v = .int i := rv
    subst rv
    exact ⟨i, e0, k G H Go.refl rs _ (by rw [← Option.some.inj e]; exact rfl)⟩
  · cases e
def gMax2 : Store → List D → Option D := fun _ xs => match xs with
  | [.int i, .int j] => some (.int (if j > i then j else i))
  | _ => none
theorem cas_max2 : CaS K (fun xs H Q => ∃ i j, xs = [.int i, .int j] ∧ Q (.int (if j > i then j else i)) H) gMax2 := by
  intro G H ρ S xs vs Q rs rx d e k
  unfold gMax2 at e
  split at e
  · rename_i i j
    obtain ⟨v, u, e0, rv, ru⟩ := rx.two_of
    have rv : v = .int i := rv
    have ru : u = .int j := ru
    subst rv ru
    exact ⟨i, j, e0, k G H Go.refl rs _ (by rw [← Option.some.inj e]; exact rfl)⟩
  · cases e
def gMin2 : Store → List D → Option D := fun _ xs => match xs with
  | [.int i, .int j] => some (.int (if j < i then j else i))
  | _ => none
theorem cas_min2 : CaS K (fun xs H Q => ∃ i j, xs = [.int i, .int j] ∧ Q (.int (if j < i then j else i)) H) gMin2 := by
  intro G H ρ S xs vs Q rs rx d e k
  unfold gMin2 at e
  split at e
  · rename_i i j
    obtain ⟨v, u, e0, rv, ru⟩ := rx.two_of
    have rv : v = .int i := rv
    have ru : u = .int j := ru
    subst rv ru
    exact ⟨i, j, e0, k G H Go.refl rs _ (by rw [← Option.some.inj e]; exact rfl)⟩
  · cases e
def gInt : Store → List D → Option D := fun _ xs => match xs with
  | [.int i] => some (.int i)
  | [.bl k] => some (.int (if k then 1 else 0))
  | _ => none
theorem cas_int : CaS K (fun xs H Q => (∃ i, xs = [.int i] ∧ Q (.int i) H) ∨ ∃ k, xs = [.bl k] ∧ Q (.int (if k then 1 else 0)) H) gInt := by
  intro G H ρ S xs vs Q rs rx d e k
  unfold gInt at e
  split at e
  · rename_i i
    obtain ⟨v, e0, rv⟩ := rx.one_of
    have rv : v = .int i := rv
    subst rv
    exact .inl ⟨i, e0, k G H Go.refl rs _ (by rw [← Option.some.inj e]; exact rfl)⟩
  · rename_i b
    obtain ⟨v, e0, rv⟩ := rx.one_of
    have rv : v = .bl b := rv
    subst rv
    exact .inr ⟨b, e0, k G H Go.refl rs _ (by rw [← Option.some.inj e]; exact rfl)⟩
  · cases e
/-- tuple(x) -/
def gTuple : Store → List D → Option D := fun S xs => match xs with
  | [x] => (match itemsOf S x with
    | some (_, l) => some (.tup l)
    | none => none)
  | _ => none
theorem cas_tuple : CaS K (fun xs H Q => ∃ p ys, xs = [.ref p] ∧ ((SqL K H p ys ∧ ∀ l, H l = none → Q (.ref l) (upd H l (.tup ys))) ∨ (SqT K H p ys ∧ Q (.ref p) H))) gTuple := by
  intro G H ρ S xs vs Q rs rx d e k
  unfold gTuple at e
  split at e
  · rename_i x
    obtain ⟨v, e0, rv⟩ := rx.one_of
    split at e
    · rename_i b l hi
      have ed : D.tup l = d := Option.some.inj e
      subst ed
      cases b with
      | true =>
        obtain ⟨a, ws, ev, hl, h1, _⟩ := items_rep rs rv hi
        subst ev
        refine ⟨a, ws, e0, .inl ⟨h1 rfl, fun p hp => ?_⟩⟩
        exact k _ _ (Go.new hp (rs.none_of hp) _) (rs.new hp _) _ ⟨p, ws, rfl, SqT.of upd_same, hl.newT rs hp _⟩
      | false =>
        have hx : x = .tup l := by
          unfold itemsOf at hi
          split at hi
          · injection hi with hi; injection hi with _ hi; rw [hi]
          · injection hi with hi; injection hi with hi; cases hi
          · injection hi with hi; injection hi with hi; cases hi
          · split at hi
            · injection hi with hi; injection hi with hi; cases hi
            · cases hi
          · cases hi
        obtain ⟨a, ws, ev, hl, _, h2⟩ := items_rep rs rv hi
        subst ev
        refine ⟨a, ws, e0, .inr ⟨h2 rfl, k G H Go.refl rs _ ?_⟩⟩
        rw [hx] at rv
        exact rv
    · cases e
  · cases e
/-- list(x) -/
def gList : Store → List D → Option (List D) := fun S xs => match xs with
  | [x] => (itemsOf S x).map (·.2)
  | _ => none
theorem cal_list : CaL K (fun xs H Q => ∃ p ys, xs = [.ref p] ∧ (SqL K H p ys ∨ SqT K H p ys) ∧ ∀ l, H l = none → Q (.ref l) (upd H l (.lst ys))) gList := by
  intro G H ρ S xs vs Q rs rx d e k
  unfold gList at e
  split at e
  · rename_i x
    obtain ⟨v, e0, rv⟩ := rx.one_of
    cases hi : itemsOf S x with
    | none => rw [hi] at e; cases e
    | some p =>
      rw [hi] at e
      obtain ⟨b, l⟩ := p
      have ed : l = d := Option.some.inj e
      subst ed
      obtain ⟨a, ws, ev, hl, h1, h2⟩ := items_rep rs rv hi
      subst ev
      refine ⟨a, ws, e0, ?_, fun p hp => k p ws hp hl⟩
      cases b with
      | true => exact .inl (h1 rfl)
      | false => exact .inr (h2 rfl)
  · cases e
/-- lists of bools, of ints -/
def blsOf : List D → Option (List Bool)
  | [] => some []
  | .bl b :: l => (blsOf l).map (b :: ·)
  | _ :: _ => none
def intsOf : List D → Option (List Int)
  | [] => some []
  | .int i :: l => (intsOf l).map (i :: ·)
  | _ :: _ => none
theorem bls_rep {G : Hp} {ρ : List Addr} : ∀ {l : List D} {bs : List Bool} {vs : List V}, Reps K G ρ l vs → blsOf l = some bs → vs = bs.map V.bl
  | [], bs, vs, h, e => by
    have h : vs = [] := h
    rw [h, ← Option.some.inj e]; rfl
  | .bl b :: l, bs, vs, h, e => by
    obtain ⟨v, r, e0, h1, h2⟩ := h
    have h1 : v = .bl b := h1
    have e : (blsOf l).map (b :: ·) = some bs := e
    cases q : blsOf l with
    | none => rw [q] at e; cases e
    | some cs =>
      rw [q] at e
      rw [e0, h1, ← Option.some.inj e, bls_rep h2 q]; rfl
  | .non :: l, bs, vs, h, e => by cases e
  | .int _ :: l, bs, vs, h, e => by cases e
  | .str _ :: l, bs, vs, h, e => by cases e
  | .tup _ :: l, bs, vs, h, e => by cases e
  | .lst _ :: l, bs, vs, h, e => by cases e
  | .scr _ :: l, bs, vs, h, e => by cases e
  | .ref _ :: l, bs, vs, h, e => by cases e
  | .ty _ :: l, bs, vs, h, e => by cases e
  | .adr _ :: l, bs, vs, h, e => by cases e
theorem ints_rep {G : Hp} {ρ : List Addr} : ∀ {l : List D} {bs : List Int} {vs : List V}, Reps K G ρ l vs → intsOf l = some bs → vs = bs.map V.int
  | [], bs, vs, h, e => by
    have h : vs = [] := h
    rw [h, ← Option.some.inj e]; rfl
  | .int b :: l, bs, vs, h, e => by
    obtain ⟨v, r, e0, h1, h2⟩ := h
    have h1 : v = .int b := h1
    have e : (intsOf l).map (b :: ·) = some bs := e
    cases q : intsOf l with
    | none => rw [q] at e; cases e
    | some cs =>
      rw [q] at e
      rw [e0, h1, ← Option.some.inj e, ints_rep h2 q]; rfl
  | .non :: l, bs, vs, h, e => by cases e
  | .bl _ :: l, bs, vs, h, e => by cases e
  | .str _ :: l, bs, vs, h, e => by cases e
  | .tup _ :: l, bs, vs, h, e => by cases e
  | .lst _ :: l, bs, vs, h, e => by cases e
  | .scr _ :: l, bs, vs, h, e => by cases e
  | .ref _ :: l, bs, vs, h, e => by cases e
  | .ty _ :: l, bs, vs, h, e => by cases e
  | .adr _ :: l, bs, vs, h, e => by cases e
/-- a list's items -/
def listOf (S : Store) (x : D) : Option (List D) := match itemsOf S x with
  | some (true, l) => some l
  | _ => none
theorem list_rep {G H : Hp} {ρ : List Addr} {S : Store} {x : D} {v : V} {l : List D} (rs : RS K G H ρ S) (rx : Rep K G ρ x v) (h : listOf S x = some l) : ∃ a vs, v = .ref a ∧ Reps K G ρ l vs ∧ SqL K H a vs := by
  unfold listOf at h
  split at h
  · rename_i l0 hi
    rw [Option.some.inj h] at hi
    obtain ⟨a, vs, e, h1, h2, _⟩ := items_rep rs rx hi
    exact ⟨a, vs, e, h1, h2 rfl⟩
  · cases h
def gAll : Store → List D → Option D := fun S xs => match xs with
  | [x] => (listOf S x).bind fun l => (blsOf l).map fun bs => .bl (bs.all id)
  | _ => none
def gAny : Store → List D → Option D := fun S xs => match xs with
  | [x] => (listOf S x).bind fun l => (blsOf l).map fun bs => .bl (bs.any id)
  | _ => none
def gSum : Store → List D → Option D := fun S xs => match xs with
  | [x] => (listOf S x).bind fun l => (intsOf l).map fun bs => .int bs.sum
  | _ => none
theorem bind_some {α β : Type} {r : Option α} {f : α → Option β} {b : β} (h : r.bind f = some b) : ∃ a, r = some a ∧ f a = some b := by
  cases r with
  | none => cases h
  | some a => exact ⟨a, rfl, h⟩
theorem map_some {α β : Type} {r : Option α} {f : α → β} {b : β} (h : r.map f = some b) : ∃ a, r = some a ∧ f a = b := by
  cases r with
  | none => cases h
  | some a => exact ⟨a, rfl, Option.some.inj h⟩
theorem cas_all : CaS K (rAll K) gAll := by
  intro G H ρ S xs vs Q rs rx d e k
  unfold gAll at e
  split at e
  · rename_i x
    obtain ⟨v, e0, rv⟩ := rx.one_of
    obtain ⟨l, h1, h2⟩ := bind_some e
    obtain ⟨bs, h3, h4⟩ := map_some h2
    obtain ⟨a, ws, ev, hl, h5⟩ := list_rep rs rv h1
    subst ev
    refine ⟨a, bs, e0, by rw [← bls_rep hl h3]; exact h5, k G H Go.refl rs _ (by rw [← h4]; exact rfl)⟩
  · cases e
theorem cas_any : CaS K (rAny K) gAny := by
  intro G H ρ S xs vs Q rs rx d e k
  unfold gAny at e
  split at e
  · rename_i x
    obtain ⟨v, e0, rv⟩ := rx.one_of
    obtain ⟨l, h1, h2⟩ := bind_some e
    obtain ⟨bs, h3, h4⟩ := map_some h2
    obtain ⟨a, ws, ev, hl, h5⟩ := list_rep rs rv h1
    subst ev
    refine ⟨a, bs, e0, by rw [← bls_rep hl h3]; exact h5, k G H Go.refl rs _ (by rw [← h4]; exact rfl)⟩
  · cases e
theorem cas_sum : CaS K (rSum K) gSum := by
  intro G H ρ S xs vs Q rs rx d e k
  unfold gSum at e
  split at e
  · rename_i x
    obtain ⟨v, e0, rv⟩ := rx.one_of
    obtain ⟨l, h1, h2⟩ := bind_some e
    obtain ⟨bs, h3, h4⟩ := map_some h2
    obtain ⟨a, ws, ev, hl, h5⟩ := list_rep rs rv h1
    subst ev
    refine ⟨a, bs, e0, by rw [← ints_rep hl h3]; exact h5, k G H Go.refl rs _ (by rw [← h4]; exact rfl)⟩
  · cases e
/-- sorted of ints: insertion -/
def insI (x : Int) : List Int → List Int
  | [] => [x]
  | y :: l => if x ≤ y then x :: y :: l else y :: insI x l
def sortI : List Int → List Int
  | [] => []
  | x :: l => insI x (sortI l)
end
end MD
set_option Elab.async false
set_option linter.all false
set_option maxRecDepth 100000
set_option maxHeartbeats 1000000
/-! statements, targets, loops, comprehensions -/
namespace MD
open PySem PySem.Spec PyProof.Rows L2

inductive SR where
  | nx (e : Env) (S : Store) | rt (d : D) (S : Store) | bk (e : Env) (S : Store) | ct (e : Env) (S : Store) | ex (x : XV) (e : Env) (S : Store)
abbrev MS := Env → Store → Option SR
def AftS (K : W.Frag) (Wx : WX) (G H : Hp) (ρ : List Addr) (r : Option SR) (D : Ends) : Prop :=
  match r with
  | none => False
  | some (.nx e' S') => ∀ G' H' ρ' σ', Go G H ρ G' H' ρ' → RS K G' H' ρ' S' → EnvR K G' ρ' e' σ' → D.nx σ' H'
  | some (.rt d S') => ∀ G' H' ρ' v, Go G H ρ G' H' ρ' → RS K G' H' ρ' S' → Rep K G' ρ' d v → D.rt v H'
  | some (.bk e' S') => ∀ G' H' ρ' σ', Go G H ρ G' H' ρ' → RS K G' H' ρ' S' → EnvR K G' ρ' e' σ' → D.bk σ' H'
  | some (.ct e' S') => ∀ G' H' ρ' σ', Go G H ρ G' H' ρ' → RS K G' H' ρ' S' → EnvR K G' ρ' e' σ' → D.ct σ' H'
  | some (.ex x e' S') => ∀ G' H' ρ' σ' c d, Go G H ρ G' H' ρ' → RS K G' H' ρ' S' → EnvR K G' ρ' e' σ' → XRep K G' H' ρ' x c d → Wx c d σ' H'
theorem AftS.shift {K : W.Frag} {Wx : WX} {G G' H H' : Hp} {ρ ρ' : List Addr} {r : Option SR} {D : Ends} (h : AftS K Wx G H ρ r D) (g : Go G H ρ G' H' ρ') : AftS K Wx G' H' ρ' r D := by
  cases r with
  | none => exact h
  | some x => cases x with
    | nx e S => exact fun G2 H2 ρ2 σ2 g2 => h G2 H2 ρ2 σ2 (g.trans g2)
    | rt e S => exact fun G2 H2 ρ2 σ2 g2 => h G2 H2 ρ2 σ2 (g.trans g2)
    | bk e S => exact fun G2 H2 ρ2 σ2 g2 => h G2 H2 ρ2 σ2 (g.trans g2)
    | ct e S => exact fun G2 H2 ρ2 σ2 g2 => h G2 H2 ρ2 σ2 (g.trans g2)
    | ex x e S => exact fun G2 H2 ρ2 σ2 c d g2 => h G2 H2 ρ2 σ2 c d (g.trans g2)
def SndS (K : W.Frag) (Wx : WX) (t : TS) (m : MS) : Prop := ∀ (σ : L2.St) (H : Hp) (D : Ends) (e : Env) (G : Hp) (ρ : List Addr) (S : Store), EnvR K G ρ e σ → RS K G H ρ S → AftS K Wx G H ρ (m e S) D → t D σ H
def PSD (X : Cx) (Wx : WX) (st : Stmt) (m : MS) : Prop := ∃ t, PS X st t ∧ SndS X.K Wx t m
def PBl (X : Cx) (Wx : WX) (st : List Stmt) (m : MS) : Prop := ∃ t, PSs X st t ∧ SndS X.K Wx t m
/-- an expression ahead of a statement's end; e: the slots at the time -/
def bndS {α : Type} (e : Env) (r : Out (α × Store)) (f : α → Store → Option SR) : Option SR := match r with
  | .none => none
  | .some (a, S) => f a S
  | .err x S => some (.ex x e S)
theorem AftS.bnd {α : Type} {K : W.Frag} {Wx : WX} {G H : Hp} {ρ : List Addr} {r : Out (α × Store)} {f : α → Store → Option SR} {D : Ends} {e : Env} {σ : L2.St} (h : AftS K Wx G H ρ (bndS e r f) D) (he : EnvR K G ρ e σ) :
    Aft K (wE K Wx σ) G H ρ r fun a S' G' H' ρ' => AftS K Wx G' H' ρ' (f a S') D := by
  cases r with
  | none => exact h
  | some x => exact fun G2 H2 ρ2 g2 rs => AftS.shift (r := f x.1 x.2) h g2
  | err x S => exact fun G2 H2 ρ2 g2 rs c d xr => h G2 H2 ρ2 σ c d g2 rs (he.mono g2.gr g2.pl) xr

/-! ### blocks -/
def msNil : MS := fun e S => some (.nx e S)
def msSeq (a b : MS) : MS := fun e S => match a e S with
  | some (.nx e1 S1) => b e1 S1
  | r => r
section
variable {X : Cx} {Wx : WX} {K : W.Frag}
theorem sndS_nil : SndS K Wx tNext msNil := fun σ H D e G ρ S he rs h => h G H ρ σ Go.refl rs he
theorem sndS_seq {t u : TS} {a b : MS} (h : SndS K Wx t a) (h' : SndS K Wx u b) : SndS K Wx (tSeq t u) (msSeq a b) := by
  intro σ H D e G ρ S he rs q
  refine h σ H _ e G ρ S he rs ?_
  unfold msSeq at q
  split at q
  · rename_i e1 S1 hq
    rw [hq]
    exact fun G1 H1 ρ1 σ1 g1 rs1 he1 => h' σ1 H1 D e1 G1 ρ1 S1 he1 rs1 (AftS.shift q g1)
  · rename_i hne
    cases z : a e S with
    | none => rw [z] at q; exact q
    | some r =>
      rw [z] at q
      cases r with
      | nx e1 S1 => exact absurd z (hne e1 S1)
      | rt d S1 => exact q
      | bk e1 S1 => exact q
      | ct e1 S1 => exact q
      | ex x e1 S1 => exact q
theorem pbl_nil : PBl X Wx [] msNil := ⟨_, pss_nil, sndS_nil⟩
theorem pbl_cons {st : Stmt} {rest : List Stmt} {a b : MS} (h : PSD X Wx st a) (h' : PBl X Wx rest b) : PBl X Wx (st :: rest) (msSeq a b) := by
  obtain ⟨t, h1, h2⟩ := h
  obtain ⟨u, h3, h4⟩ := h'
  exact ⟨_, pss_cons h1 h3, sndS_seq h2 h4⟩
theorem pbl_one {st : Stmt} {a : MS} (h : PSD X Wx st a) : PBl X Wx [st] a := by
  obtain ⟨t, h1, h2⟩ := h
  exact ⟨_, pss_one h1, h2⟩
def msBad : MS := fun _ _ => none
theorem psd_never {st : Stmt} : PSD X Wx st msBad := ⟨_, ps_never, fun σ H D e G ρ S he rs h => h.elim⟩
theorem pbl_never {st : List Stmt} : PBl X Wx st msBad := ⟨_, pss_never, fun σ H D e G ρ S he rs h => h.elim⟩
theorem psd_pass {pos : Pos} : PSD X Wx (.Pass pos) msNil := ⟨_, ps_pass, sndS_nil⟩
def msBreak : MS := fun e S => some (.bk e S)
def msCont : MS := fun e S => some (.ct e S)
theorem psd_break {pos : Pos} : PSD X Wx (.Break pos) msBreak := ⟨_, ps_break, fun σ H D e G ρ S he rs h => h G H ρ σ Go.refl rs he⟩
theorem psd_continue {pos : Pos} : PSD X Wx (.Continue pos) msCont := ⟨_, ps_continue, fun σ H D e G ρ S he rs h => h G H ρ σ Go.refl rs he⟩
def msExpr (m : M D) : MS := fun e S => bndS e (m e S) fun _ S1 => some (.nx e S1)
theorem psd_expr {e : Expr} {m : M D} {pos : Pos} (h : PD X Wx e m) (hs : swapsWith e none pos.line X.env = pure false := by rfl) : PSD X Wx (.Expr e pos) (msExpr m) := by
  obtain ⟨t, h1, h2⟩ := h
  refine ⟨_, ps_expr h1 hs, fun σ H D e G ρ S he rs h => ?_⟩
  exact h2 σ H _ e G ρ S he rs (Aft.imp (AftS.bnd h he) fun x S1 G1 H1 ρ1 g1 rs1 k v rv => k G1 H1 ρ1 σ Go.refl rs1 (he.mono g1.gr g1.pl))
def msRet (m : M D) : MS := fun e S => bndS e (m e S) fun d S1 => some (.rt d S1)
theorem psd_ret {e : Expr} {m : M D} {pos : Pos} (h : PD X Wx e m) : PSD X Wx (.Return (some e) pos) (msRet m) := by
  obtain ⟨t, h1, h2⟩ := h
  refine ⟨_, ps_ret h1, fun σ H D e G ρ S he rs h => ?_⟩
  exact h2 σ H _ e G ρ S he rs (Aft.imp (AftS.bnd h he) fun x S1 G1 H1 ρ1 g1 rs1 k v rv => k G1 H1 ρ1 v Go.refl rs1 rv)
theorem psd_retN {pos : Pos} : PSD X Wx (.Return none pos) (fun _ S => some (.rt .non S)) := ⟨_, ps_retN, fun σ H D e G ρ S he rs h => h G H ρ .non Go.refl rs rfl⟩
def msIf (c : M Bool) (a b : MS) : MS := fun e S => bndS e (c e S) fun k S1 => if k = true then a e S1 else b e S1
theorem psd_if {c : Expr} {p q : List Stmt} {mc : M Bool} {a b : MS} {pos : Pos} (hc : PB X Wx c mc) (ha : PBl X Wx p a) (hb : PBl X Wx q b) : PSD X Wx (.If c p q pos) (msIf mc a b) := by
  obtain ⟨t, h1, h2⟩ := hc
  obtain ⟨u, h3, h4⟩ := ha
  obtain ⟨w, h5, h6⟩ := hb
  refine ⟨_, ps_if h1 h3 h5, fun σ H D e G ρ S he rs h => ?_⟩
  refine h2 σ H _ e G ρ S he rs (Aft.imp (AftS.bnd h he) fun k S1 G1 H1 ρ1 g1 rs1 z => ?_)
  cases k with
  | true => exact h4 σ H1 D e G1 ρ1 S1 (he.mono g1.gr g1.pl) rs1 z
  | false => exact h6 σ H1 D e G1 ρ1 S1 (he.mono g1.gr g1.pl) rs1 z
end

/-! ### targets -/
abbrev Tg := D → Env → Option Env
abbrev Tgs := List D → Env → Option Env
def WipeOk (slots : List Nat) (σ σ' : L2.St) : Prop := ∀ ws : List Nat, (∀ i ∈ slots, i ∈ ws) → L2.wipe σ' ws = L2.wipe σ ws
theorem wipe_set {σ : L2.St} {i : Nat} {x : Option V} : ∀ {ws : List Nat}, i ∈ ws → L2.wipe (σ.set i x) ws = L2.wipe σ ws
  | w :: ws, h => by
    show (L2.wipe (σ.set i x) ws).set w none = (L2.wipe σ ws).set w none
    by_cases hi : i ∈ ws
    · rw [wipe_set hi]
    · have hw : i = w := by
        rcases List.mem_cons.mp h with h | h
        · exact h
        · exact absurd h hi
      subst hw
      have key : ∀ (us : List Nat), i ∉ us → L2.wipe (σ.set i x) us = (L2.wipe σ us).set i x := by
        intro us
        induction us with
        | nil => intro _; rfl
        | cons u us ih =>
          intro hu
          show (L2.wipe (σ.set i x) us).set u none = ((L2.wipe σ us).set u none).set i x
          rw [ih fun z => hu (List.mem_cons_of_mem _ z), List.set_comm _ _ fun z => hu (by rw [z]; exact List.mem_cons_self)]
      rw [key ws hi, List.set_set]
def SndG (K : W.Frag) (g : TG) (tg : Tg) (slots : List Nat) : Prop := ∀ (v : V) (σ : L2.St) (H : Hp) (Q : L2.St → Hp → Prop) (d : D) (e e' : Env) (G : Hp) (ρ : List Addr) (S : Store), RS K G H ρ S → EnvR K G ρ e σ → Rep K G ρ d v → tg d e = some e' →
  (∀ σ', EnvR K G ρ e' σ' → WipeOk slots σ σ' → Q σ' H) → g v σ H Q
def SndGs (K : W.Frag) (g : TGs) (tg : Tgs) (slots : List Nat) : Prop := ∀ (vs : List V) (σ : L2.St) (H : Hp) (Q : L2.St → Hp → Prop) (ds : List D) (e e' : Env) (G : Hp) (ρ : List Addr) (S : Store), RS K G H ρ S → EnvR K G ρ e σ → Reps K G ρ ds vs → tg ds e = some e' →
  (∀ σ', EnvR K G ρ e' σ' → WipeOk slots σ σ' → Q σ' H) → g vs σ H Q
def PGD (X : Cx) (target : Expr) (tg : Tg) (slots : List Nat) : Prop := ∃ g, PG X target g ∧ SndG X.K g tg slots
def PGsD (X : Cx) (ts : List Expr) (tg : Tgs) (slots : List Nat) : Prop := ∃ g, PGs X ts g ∧ SndGs X.K g tg slots
def tgName (i : Nat) : Tg := fun d e => some (e.set i (some d))
def tgNil : Tgs := fun ds e => match ds with
  | [] => some e
  | _ => none
def tgCons (a : Tg) (r : Tgs) : Tgs := fun ds e => match ds with
  | d :: ds => (match a d e with
    | some e1 => r ds e1
    | none => none)
  | [] => none
def tgTup (n : Nat) (r : Tgs) : Tg := fun d e => match d with
  | .tup l => if l.length = n then r l e else none
  | _ => none
section
variable {X : Cx} {Wx : WX} {K : W.Frag}
theorem sndG_name (i : Nat) : SndG K (gName i) (tgName i) [i] := by
  intro v σ H Q d e e' G ρ S rs he rd h k
  have h := Option.some.inj h
  subst h
  exact k _ (he.set i rd) fun ws hw => wipe_set (hw i (List.mem_singleton.mpr rfl))
theorem pgd_name (i : Nat) {x : Str} {pos : Pos} (hN : X.N.Nodup) (hi : X.N[i]? = some x := by rfl) (hx : Loc X.env.scope x := by first | exact Or.inl rfl | exact Or.inr rfl) (hf : X.fn x = true ∨ X.env.scope.names.lookup x = some .local := by first | exact .inl rfl | exact .inr rfl) : PGD X (.Name x pos) (tgName i) [i] :=
  ⟨_, pg_name hN hi hx hf, sndG_name i⟩
theorem pgsd_nil : PGsD X [] tgNil [] := by
  refine ⟨_, pgs_nil, fun vs σ H Q ds e e' G ρ S rs he rd h k => ?_⟩
  cases ds with
  | nil =>
    have h := Option.some.inj h
    subst h
    exact ⟨rd, k σ he fun _ _ => rfl⟩
  | cons d ds => cases h
theorem pgsd_cons {t : Expr} {ts : List Expr} {a : Tg} {r : Tgs} {sa sr : List Nat} (h : PGD X t a sa) (h' : PGsD X ts r sr) (hs : (assignEach (t :: ts) X.env).map (·.2) = assign t X.env :: (assignEach ts X.env).map (·.2) := by rfl) : PGsD X (t :: ts) (tgCons a r) (sa ++ sr) := by
  obtain ⟨g, h1, h2⟩ := h
  obtain ⟨g', h3, h4⟩ := h'
  refine ⟨_, pgs_cons h1 h3 hs, fun vs σ H Q ds e e' G ρ S rs he rd h k => ?_⟩
  cases ds with
  | nil => cases h
  | cons d ds =>
    obtain ⟨v, w, ev, hv, hw⟩ := rd
    have h : (match a d e with | some e1 => r ds e1 | none => none) = some e' := h
    cases q : a d e with
    | none => rw [q] at h; cases h
    | some e1 =>
      rw [q] at h
      refine ⟨v, w, ev, h2 v σ H _ d e e1 G ρ S rs he hv q fun σ1 he1 w1 => h4 w σ1 H _ ds e1 e' G ρ S rs he1 hw h fun σ2 he2 w2 => k σ2 he2 fun ws hws => ?_⟩
      rw [w2 ws fun i hi => hws i (List.mem_append_right _ hi), w1 ws fun i hi => hws i (List.mem_append_left _ hi)]
theorem pgd_tup {es : List Expr} {k n : Nat} {pos : Pos} {r : Tgs} {sl : List Nat} (hc : X.calm = true) (h : PGsD X es r sl) (hn : (assignEach es X.env).length = n := by rfl) (hst : (assignEach es X.env).findIdx? (·.1) = none := by rfl) : PGD X (.Tuple es k pos) (tgTup n r) sl := by
  obtain ⟨g, h1, h2⟩ := h
  refine ⟨_, pg_tup hc h1 hn hst, fun v σ H Q d e e' G ρ S rs he rd h k => ?_⟩
  cases d with
  | tup l =>
    have h : (if l.length = n then r l e else none) = some e' := h
    split at h
    · rename_i hl
      obtain ⟨a, vs, ev, hq, hv⟩ := rd
      exact ⟨a, vs, ev, rs.sub.sqt hq, by rw [← hv.length]; exact hl, h2 vs σ H Q l e e' G ρ S rs he hv h k⟩
    · cases h
  | _ => cases h
/-- target = value -/
def msAsg (m : M D) (tg : Tg) : MS := fun e S => bndS e (m e S) fun d S1 => match tg d e with
  | some e' => some (.nx e' S1)
  | none => none
theorem sndS_asg {te : TE} {g : TG} {m : M D} {tg : Tg} {sl : List Nat} (h : SndE K Wx te m) (h' : SndG K g tg sl) : SndS K Wx (tAsg te g) (msAsg m tg) := by
  intro σ H D e G ρ S he rs q
  refine h σ H _ e G ρ S he rs (Aft.imp (AftS.bnd q he) fun d S1 G1 H1 ρ1 g1 rs1 k v rv => ?_)
  cases z : tg d e with
  | none => rw [z] at k; exact k.elim
  | some e' =>
    rw [z] at k
    exact h' v σ H1 _ d e e' G1 ρ1 S1 rs1 (he.mono g1.gr g1.pl) rv z fun σ' he' _ => k G1 H1 ρ1 σ' Go.refl rs1 he'
theorem psd_set (i : Nat) {x : Str} {e : Expr} {m : M D} {pos pos' : Pos} (hN : X.N.Nodup) (h : PD X Wx e m) (hi : X.N[i]? = some x := by rfl) (hx : Loc X.env.scope x := by first | exact Or.inl rfl | exact Or.inr rfl) (hs : swapsWith e (some (.Name x pos')) pos.line X.env = pure false := by rfl)
    (hf : X.fn x = true ∨ X.env.scope.names.lookup x = some .local := by first | exact .inl rfl | exact .inr rfl) : PSD X Wx (.Assign [.Name x pos'] e pos) (msAsg m (tgName i)) := by
  obtain ⟨t, h1, h2⟩ := h
  exact ⟨_, ps_set hN hi hx h1 hs hf, sndS_asg h2 (sndG_name i)⟩
theorem psd_asg {tg e : Expr} {m : M D} {g : Tg} {sl : List Nat} {pos : Pos} (h : PD X Wx e m) (hg : PGD X tg g sl) (hs : swapsWithSole [tg] e pos.line X.env = pure false := by rfl) (hw : swappedStores [tg] e X.env = pure none := by rfl)
    (h1 : (assignEach [tg] X.env).map (·.2) = [assign tg X.env] := by rfl) : PSD X Wx (.Assign [tg] e pos) (msAsg m g) := by
  obtain ⟨t, h2, h3⟩ := h
  obtain ⟨u, h4, h5⟩ := hg
  exact ⟨_, ps_asg h2 h4 hs hw h1, sndS_asg h3 h5⟩
/-- a, b = x, y -/
def msPar (i j : Nat) (m : M (List D)) : MS := fun e S => bndS e (m e S) fun ds S1 => match ds with
  | [x, y] => some (.nx ((e.set i (some x)).set j (some y)) S1)
  | _ => none
theorem psd_par (i j : Nat) {x y : Str} {a b : Expr} {m : M (List D)} {px py pt pos : Pos} {kt k2 : Nat} {pt2 : Pos} (hc : X.calm = true) (hN : X.N.Nodup) (ha : PAs X Wx [a, b] m) (hi : X.N[i]? = some x := by rfl) (hj : X.N[j]? = some y := by rfl) (hij : i ≠ j := by decide)
    (hx : X.env.scope.names.lookup x = some .local := by rfl) (hy : X.env.scope.names.lookup y = some .local := by rfl)
    (hw : swappedStores [.Tuple [.Name x px, .Name y py] kt pt] (.Tuple [a, b] k2 pt2) X.env = pure (some [x, y]) := by rfl)
    (hs : swapsWithSole [.Tuple [.Name x px, .Name y py] kt pt] (.Tuple [a, b] k2 pt2) pos.line X.env = pure false := by rfl) : PSD X Wx (.Assign [.Tuple [.Name x px, .Name y py] kt pt] (.Tuple [a, b] k2 pt2) pos) (msPar i j m) := by
  obtain ⟨t, h1, h2⟩ := ha
  refine ⟨_, ps_par hc hN hi hj hij hx hy h1 hw hs, fun σ H D e G ρ S he rs q => ?_⟩
  refine h2 σ H _ e G ρ S he rs (Aft.imp (AftS.bnd q he) fun ds S1 G1 H1 ρ1 g1 rs1 k vs rv => ?_)
  split at k
  · rename_i p q
    obtain ⟨v, u, e0, r1, r2⟩ := rv.two_of
    subst e0
    exact ⟨v, u, rfl, k G1 H1 ρ1 _ Go.refl rs1 (((he.mono g1.gr g1.pl).set i r1).set j r2)⟩
  · exact k.elim
/-- name op= value -/
def msAug (i : Nat) (g : Store → D → D → Option D) (m : M D) : MS := fun e S => match e[i]? with
  | some (some x) => bndS e (m e S) fun y S1 => (match g S1 x y with
    | some z => some (.nx (e.set i (some z)) S1)
    | none => none)
  | _ => none
theorem psd_aug (i : Nat) {x : Str} {e : Expr} {op : Operator} {r : R2} {g : Store → D → D → Option D} {m : M D} {pos pos' : Pos} (hN : X.N.Nodup) (ho : OpR X (inplaceOp op) r) (o : OpS X.K r g) (h : PD X Wx e m) (hi : X.N[i]? = some x := by rfl) (hx : Loc X.env.scope x := by first | exact Or.inl rfl | exact Or.inr rfl)
    (hf : X.fn x = true ∨ X.env.scope.names.lookup x = some .local := by first | exact .inl rfl | exact .inr rfl) : PSD X Wx (.AugAssign (.Name x pos') op e pos) (msAug i g m) := by
  obtain ⟨t, h1, h2⟩ := h
  refine ⟨_, ps_aug hN hi hx h1 (ti := r) (fun pins s σ H x y v u Q I rx ry q => ho pins s σ H x y v u Q I rx ry q) hf, fun σ H D e G ρ S he rs q => ?_⟩
  unfold msAug at q
  split at q
  · rename_i x0 hx0
    obtain ⟨v, hv, rv⟩ := he.sl i x0 hx0
    refine ⟨v, hv, h2 σ H _ e G ρ S he rs (Aft.imp (AftS.bnd q he) fun y S1 G1 H1 ρ1 g1 rs1 k u ru => ?_)⟩
    cases z : g S1 x0 y with
    | none => rw [z] at k; exact k.elim
    | some d =>
      rw [z] at k
      exact o G1 H1 ρ1 S1 x0 y v u _ rs1 (Rep.mono g1.gr g1.pl _ _ rv) ru d z fun G2 H2 g2 rs2 w rw => k G2 H2 ρ1 _ g2 rs2 (((he.mono g1.gr g1.pl).mono g2.gr g2.pl).set i rw)
  · exact q.elim
end

/-! ### what is walked -/
/-- a list that stands; or items that are looked up at each turn (a list that the code owns) -/
inductive Src where
  | fix (ds : List D) | dyn (f : Nat → Store → Option (Option D))
def Src.now : Src → Nat → Store → Option (Option D)
  | .fix ds, i, _ => if ds.length < i then none else some ds[i]?
  | .dyn f, i, S => f i S
structure Gives (K : W.Frag) (J : It) (src : Src) (G0 H0 : Hp) (ρ0 : List Addr) : Prop where
  goes : ∀ (i : Nat) d G H ρ S, src.now i S = some (some d) → RS K G H ρ S → Go G0 H0 ρ0 G H ρ → J.go i H
  stops : ∀ (i : Nat) G H ρ S, src.now i S = some none → RS K G H ρ S → Go G0 H0 ρ0 G H ρ → J.stop i H
  yields : ∀ (i : Nat) d G H ρ S x H', src.now i S = some (some d) → RS K G H ρ S → Go G0 H0 ρ0 G H ρ → J.yld i H x H' → ∃ G', Go G H ρ G' H' ρ ∧ RS K G' H' ρ S ∧ Rep K G' ρ d x
def SndI (K : W.Frag) (Wx : WX) (wi : TI) (m : M Src) : Prop := ∀ (σ : L2.St) (H : Hp) (R : It → Hp → Prop) (e : Env) (G : Hp) (ρ : List Addr) (S : Store), EnvR K G ρ e σ → RS K G H ρ S →
  Aft K (wE K Wx σ) G H ρ (m e S) (fun src _ G' H' ρ' => ∀ J, Gives K J src G' H' ρ' → R J H') → wi σ H R
def PID (X : Cx) (Wx : WX) (tg iter : Expr) (m : M Src) : Prop := ∃ wi, PI X tg iter wi ∧ SndI X.K Wx wi m
def forEnd (r : Option SR) (k : Env → Store → Option SR) : Option SR := match r with
  | some (.nx e S) => k e S
  | some (.ct e S) => k e S
  | some (.bk e S) => some (.nx e S)
  | r => r
def forL (tg : Tg) (b : MS) : List D → Env → Store → Option SR
  | [], e, S => some (.nx e S)
  | d :: ds, e, S => match tg d e with
    | none => none
    | some e1 => forEnd (b e1 S) fun e2 S2 => forL tg b ds e2 S2
def forD (f : Nat → Store → Option (Option D)) (tg : Tg) (b : MS) : Nat → Nat → Env → Store → Option SR
  | 0, _, _, _ => none
  | n + 1, i, e, S => match f i S with
    | none => none
    | some none => some (.nx e S)
    | some (some d) => match tg d e with
      | none => none
      | some e1 => forEnd (b e1 S) fun e2 S2 => forD f tg b n (i + 1) e2 S2
def msFor (n : Nat) (mi : M Src) (tg : Tg) (b : MS) : MS := fun e S => bndS e (mi e S) fun src S1 => match src with
  | .fix ds => forL tg b ds e S1
  | .dyn f => forD f tg b n 0 e S1
section
variable {X : Cx} {Wx : WX} {K : W.Frag}
/-- a turn's end -/
theorem AftS.forEnd {G H : Hp} {ρ : List Addr} {r : Option SR} {k : Env → Store → Option SR} {D D' : Ends} (h : AftS K Wx G H ρ (MD.forEnd r k) D) (hrt : D'.rt = D.rt)
    (hn : ∀ σ' H', (∃ G' ρ' e S, Go G H ρ G' H' ρ' ∧ RS K G' H' ρ' S ∧ EnvR K G' ρ' e σ' ∧ AftS K Wx G' H' ρ' (k e S) D) → D'.nx σ' H' ∧ D'.ct σ' H') (hb : ∀ σ' H', D.nx σ' H' → D'.bk σ' H') : AftS K Wx G H ρ r D' := by
  cases r with
  | none => exact h
  | some r =>
    cases r with
    | nx e S => exact fun G' H' ρ' σ' g rs he => (hn σ' H' ⟨G', ρ', e, S, g, rs, he, AftS.shift (r := k e S) h g⟩).1
    | ct e S => exact fun G' H' ρ' σ' g rs he => (hn σ' H' ⟨G', ρ', e, S, g, rs, he, AftS.shift (r := k e S) h g⟩).2
    | bk e S => exact fun G' H' ρ' σ' g rs he => hb σ' H' (h G' H' ρ' σ' g rs he)
    | rt d S =>
      intro G' H' ρ' v g rs rv
      rw [hrt]
      exact h G' H' ρ' v g rs rv
    | ex x e S => exact h
theorem sndS_for {wi : TI} {g : TG} {tb : TS} {mi : M Src} {tg : Tg} {sl : List Nat} {b : MS} (n : Nat) (hi : SndI K Wx wi mi) (hg : SndG K g tg sl) (hb : SndS K Wx tb b) : SndS K Wx (tFor wi g tb) (msFor n mi tg b) := by
  intro σ H D e G ρ S he rs q
  refine hi σ H _ e G ρ S he rs (Aft.imp (AftS.bnd q he) fun src S1 G1 H1 ρ1 g1 rs1 k J gv => ?_)
  cases src with
  | fix ds =>
    refine ⟨fun i m σ H => ∃ G ρ S e, i ≤ ds.length ∧ m = ds.length - i ∧ EnvR K G ρ e σ ∧ RS K G H ρ S ∧ Go G1 H1 ρ1 G H ρ ∧ AftS K Wx G H ρ (forL tg b (ds.drop i) e S) D,
      ⟨ds.length, G1, ρ1, S1, e, Nat.zero_le _, rfl, he.mono g1.gr g1.pl, rs1, Go.refl, k⟩, ?_⟩
    rintro i m σ2 H2 ⟨G2, ρ2, S2, e2, hi2, hm, he2, rs2, gl2, k2⟩
    by_cases hlt : i < ds.length
    · have hnow : (Src.fix ds).now i S2 = some (some ds[i]) := by
        show (if ds.length < i then none else some ds[i]?) = _
        rw [if_neg (by omega), List.getElem?_eq_getElem hlt]
      refine .inr ⟨gv.goes i _ G2 H2 ρ2 S2 hnow rs2 gl2, fun σ' H' => ∃ m', m' < m ∧ ∃ G ρ S e, i + 1 ≤ ds.length ∧ m' = ds.length - (i + 1) ∧ EnvR K G ρ e σ' ∧ RS K G H' ρ S ∧ Go G1 H1 ρ1 G H' ρ ∧ AftS K Wx G H' ρ (forL tg b (ds.drop (i + 1)) e S) D, fun σ' H' h => h, fun x H3 hy => ?_⟩
      obtain ⟨G3, g3, rs3, rd⟩ := gv.yields i _ G2 H2 ρ2 S2 x H3 hnow rs2 gl2 hy
      rw [List.drop_eq_getElem_cons hlt] at k2
      have k2 : AftS K Wx G2 H2 ρ2 (match tg ds[i] e2 with
        | none => none
        | some e1 => forEnd (b e1 S2) fun e2 S2 => forL tg b (ds.drop (i + 1)) e2 S2) D := k2
      cases z : tg ds[i] e2 with
      | none => rw [z] at k2; exact k2.elim
      | some e3 =>
        rw [z] at k2
        refine hg x σ2 H3 _ _ e2 e3 G3 ρ2 S2 rs3 (he2.mono g3.gr g3.pl) rd z fun σ3 he3 _ => ?_
        refine hb σ3 H3 _ e3 G3 ρ2 S2 he3 rs3 (AftS.forEnd (AftS.shift k2 g3) rfl (fun σ' H' h => ?_) fun σ' H' h => h)
        obtain ⟨G4, ρ4, e4, S4, g4, rs4, he4, k4⟩ := h
        have r : ∃ m', m' < m ∧ ∃ G ρ S e, i + 1 ≤ ds.length ∧ m' = ds.length - (i + 1) ∧ EnvR K G ρ e σ' ∧ RS K G H' ρ S ∧ Go G1 H1 ρ1 G H' ρ ∧ AftS K Wx G H' ρ (forL tg b (ds.drop (i + 1)) e S) D :=
          ⟨ds.length - (i + 1), by omega, G4, ρ4, S4, e4, hlt, rfl, he4, rs4, gl2.trans (g3.trans g4), k4⟩
        exact ⟨r, r⟩
    · have hi3 : i = ds.length := by omega
      subst hi3
      rw [List.drop_length] at k2
      refine .inl ⟨gv.stops _ G2 H2 ρ2 S2 ?_ rs2 gl2, k2 G2 H2 ρ2 σ2 Go.refl rs2 he2⟩
      show (if ds.length < ds.length then none else some ds[ds.length]?) = _
      rw [if_neg (Nat.lt_irrefl _), List.getElem?_eq_none (Nat.le_refl _)]
  | dyn f =>
    refine ⟨fun i m σ H => ∃ G ρ S e, EnvR K G ρ e σ ∧ RS K G H ρ S ∧ Go G1 H1 ρ1 G H ρ ∧ AftS K Wx G H ρ (forD f tg b m i e S) D,
      ⟨n, G1, ρ1, S1, e, he.mono g1.gr g1.pl, rs1, Go.refl, k⟩, ?_⟩
    rintro i m σ2 H2 ⟨G2, ρ2, S2, e2, he2, rs2, gl2, k2⟩
    cases m with
    | zero => exact k2.elim
    | succ m =>
      have k2 : AftS K Wx G2 H2 ρ2 (match f i S2 with
        | none => none
        | some none => some (.nx e2 S2)
        | some (some d) => match tg d e2 with
          | none => none
          | some e1 => forEnd (b e1 S2) fun e2 S2 => forD f tg b m (i + 1) e2 S2) D := k2
      cases zf : f i S2 with
      | none => rw [zf] at k2; exact k2.elim
      | some o =>
        rw [zf] at k2
        cases o with
        | none => exact .inl ⟨gv.stops i G2 H2 ρ2 S2 zf rs2 gl2, k2 G2 H2 ρ2 σ2 Go.refl rs2 he2⟩
        | some d =>
          dsimp only at k2
          refine .inr ⟨gv.goes i d G2 H2 ρ2 S2 zf rs2 gl2, fun σ' H' => ∃ m', m' < m + 1 ∧ ∃ G ρ S e, EnvR K G ρ e σ' ∧ RS K G H' ρ S ∧ Go G1 H1 ρ1 G H' ρ ∧ AftS K Wx G H' ρ (forD f tg b m' (i + 1) e S) D, fun σ' H' h => h, fun x H3 hy => ?_⟩
          obtain ⟨G3, g3, rs3, rd⟩ := gv.yields i d G2 H2 ρ2 S2 x H3 zf rs2 gl2 hy
          cases z : tg d e2 with
          | none => rw [z] at k2; exact k2.elim
          | some e3 =>
            rw [z] at k2
            refine hg x σ2 H3 _ d e2 e3 G3 ρ2 S2 rs3 (he2.mono g3.gr g3.pl) rd z fun σ3 he3 _ => ?_
            refine hb σ3 H3 _ e3 G3 ρ2 S2 he3 rs3 (AftS.forEnd (AftS.shift k2 g3) rfl (fun σ' H' h => ?_) fun σ' H' h => h)
            obtain ⟨G4, ρ4, e4, S4, g4, rs4, he4, k4⟩ := h
            have r : ∃ m', m' < m + 1 ∧ ∃ G ρ S e, EnvR K G ρ e σ' ∧ RS K G H' ρ S ∧ Go G1 H1 ρ1 G H' ρ ∧ AftS K Wx G H' ρ (forD f tg b m' (i + 1) e S) D :=
              ⟨m, Nat.lt_succ_self m, G4, ρ4, S4, e4, he4, rs4, gl2.trans (g3.trans g4), k4⟩
            exact ⟨r, r⟩
theorem psd_for {tg iter : Expr} {body : List Stmt} {mi : M Src} {g : Tg} {sl : List Nat} {b : MS} {pos : Pos} (n : Nat) (hp : PassesOwn (model X.prog X.w) X.A X.env X.xe) (hc : X.calm = true) (hi : PID X Wx tg iter mi) (hg : PGD X tg g sl) (hb : PBl X Wx body b)
    (hs : ∀ x, foldedSetIterable iter X.env x = pure x := by intro _; rfl) : PSD X Wx (.For tg iter body [] pos) (msFor n mi g b) := by
  obtain ⟨wi, h1, h2⟩ := hi
  obtain ⟨t, h3, h4⟩ := hg
  obtain ⟨u, h5, h6⟩ := hb
  exact ⟨_, ps_for hp hc h1 h3 h5 hs, sndS_for n h2 h4 h6⟩

/-! ### while -/
def runWhile (c : M Bool) (b : MS) : Nat → Env → Store → Option SR
  | 0, _, _ => none
  | n + 1, e, S => bndS e (c e S) fun k S1 => if k = true then forEnd (b e S1) (runWhile c b n) else some (.nx e S1)
def msWhile (n : Nat) (c : M Bool) (b : MS) : MS := fun e S => runWhile c b n e S
theorem sndS_while {n : Nat} {tc : TT} {tb : TS} {c : M Bool} {b : MS} (hc : SndT K Wx tc c) (hb : SndS K Wx tb b) : SndS K Wx (tWhile tc tb) (msWhile n c b) := by
  intro σ H D e G ρ S he rs q
  refine ⟨fun m σ H => ∃ G ρ S e, EnvR K G ρ e σ ∧ RS K G H ρ S ∧ AftS K Wx G H ρ (runWhile c b m e S) D, ⟨n, G, ρ, S, e, he, rs, q⟩, ?_⟩
  rintro m σ1 H1 ⟨G1, ρ1, S1, e1, he1, rs1, k1⟩
  cases m with
  | zero => exact k1.elim
  | succ m =>
    have k1 : AftS K Wx G1 H1 ρ1 (bndS e1 (c e1 S1) fun k S1 => if k = true then forEnd (b e1 S1) (runWhile c b m) else some (.nx e1 S1)) D := k1
    refine hc σ1 H1 _ e1 G1 ρ1 S1 he1 rs1 (Aft.imp (AftS.bnd k1 he1) fun k S2 G2 H2 ρ2 g2 rs2 k2 => ?_)
    have he2 := he1.mono g2.gr g2.pl
    cases k with
    | false => exact k2 G2 H2 ρ2 σ1 Go.refl rs2 he2
    | true =>
      refine ⟨fun σ' H' => ∃ m', m' < m + 1 ∧ ∃ G ρ S e, EnvR K G ρ e σ' ∧ RS K G H' ρ S ∧ AftS K Wx G H' ρ (runWhile c b m' e S) D, fun σ' H' h => h, ?_⟩
      refine hb σ1 H2 _ e1 G2 ρ2 S2 he2 rs2 (AftS.forEnd k2 rfl (fun σ' H' h => ?_) fun σ' H' h => h)
      obtain ⟨G4, ρ4, e4, S4, g4, rs4, he4, k4⟩ := h
      have r : ∃ m', m' < m + 1 ∧ ∃ G ρ S e, EnvR K G ρ e σ' ∧ RS K G H' ρ S ∧ AftS K Wx G H' ρ (runWhile c b m' e S) D := ⟨m, Nat.lt_succ_self m, G4, ρ4, S4, e4, he4, rs4, k4⟩
      exact ⟨r, r⟩
theorem psd_while {c : Expr} {body : List Stmt} {mc : M Bool} {b : MS} {pos : Pos} (n : Nat) (hp : PassesOwn (model X.prog X.w) X.A X.env X.xe) (hc : PB X Wx c mc) (hb : PBl X Wx body b) : PSD X Wx (.While c body [] pos) (msWhile n mc b) := by
  obtain ⟨t, h1, h2⟩ := hc
  obtain ⟨u, h3, h4⟩ := hb
  exact ⟨_, ps_while hp h1 h3, sndS_while h2 h4⟩
end
end MD
set_option Elab.async false
set_option linter.all false
set_option maxRecDepth 100000
set_option maxHeartbeats 1000000
/-! walks over a list or a tuple, whichever it is: by itself, numbered, two side by side -/
namespace MD
open PySem PySem.Spec PyProof.Rows L2

/-- b: a list; else a tuple -/
def SqX (K : W.Frag) (b : Bool) (H : Hp) (a : Addr) (xs : List V) : Prop := match b with
  | true => SqL K H a xs
  | false => SqT K H a xs
def SeqAt (b : Bool) (h : Heap) (a : Addr) (its : Array Value) : Prop := match b with
  | true => h.IsList a its
  | false => h.IsTuple a its
def ItAt (b : Bool) (h : Heap) (it a : Addr) (i : Nat) : Prop := match b with
  | true => h.IsListIter it a i
  | false => h.IsTupleIter it a i
def itOb (b : Bool) (a : Addr) : Obj := match b with
  | true => { cls := .type "list_iterator", data := .fields #[.ref a, .int 0 0] }
  | false => { cls := .type "tuple_iterator", data := .fields #[.ref a, .int 0 0] }
section
variable {X : Cx} {Wx : WX} {pins : List (Addr × Obj)} {σ : L2.St} {H : Hp} {s : Shared} {a b c it : Addr} {k : Bool} {xs ys : List V}
theorem SqX.at (I : Inv X pins σ H s) (q : SqX X.K k H a xs) : ∃ its : List Value, Vals xs its ∧ SeqAt k s.heap a its.toArray ∧ xs.length ≤ sizeLine := by
  cases k with
  | true =>
    obtain ⟨its, r, p, z⟩ := I.list q
    exact ⟨its, r, p.isList, z⟩
  | false =>
    obtain ⟨its, r, p, z⟩ := I.tuple q
    exact ⟨its, r, p, z⟩
theorem SqX.inj (I : Inv X pins σ H s) (p : SqX X.K k H a xs) (q : SqX X.K k H a ys) : xs = ys := by
  cases k with
  | true => exact I.list_inj p q
  | false => exact I.tuple_inj p q
theorem SeqAt.lt {h : Heap} {its : Array Value} (q : SeqAt k h a its) : a < h.objs.size := by
  cases k with
  | true =>
    obtain ⟨o, e, _⟩ := q
    exact Heap.lt_size e
  | false =>
    obtain ⟨o, e, _⟩ := q
    exact Heap.lt_size e
theorem SeqAt.keep {h h' : Heap} {its : Array Value} (q : SeqAt k h a its) (e : ∀ o, h.get? a = some o → h'.get? a = some o) : SeqAt k h' a its := by
  cases k with
  | true => exact Heap.IsList.at q e
  | false => exact Heap.IsTuple.at q e
theorem ItAt.keep {h h' : Heap} {i : Nat} (q : ItAt k h it a i) (e : ∀ o, h.get? it = some o → h'.get? it = some o) : ItAt k h' it a i := by
  cases k with
  | true => exact Heap.IsListIter.at q e
  | false => exact Heap.IsTupleIter.at q e
theorem ItAt.ob {h : Heap} {i : Nat} (q : ItAt k h it a i) : ∃ o, h.get? it = some o ∧ ∀ v, o.data ≠ .cell v := by
  cases k with
  | true =>
    obtain ⟨o, e, _, d⟩ := q
    exact ⟨o, e, fun v z => by rw [d] at z; cases z⟩
  | false =>
    obtain ⟨o, e, _, d⟩ := q
    exact ⟨o, e, fun v z => by rw [d] at z; cases z⟩
theorem ItAt.new {h : Heap} (e : h.get? it = some (itOb k a)) : ItAt k h it a 0 := by
  cases k with
  | true => exact ⟨_, e, rfl, rfl⟩
  | false => exact ⟨_, e, rfl, rfl⟩
theorem drawsX {P : Program} {w : World} {A : Around} (hh : A.handled = none) (k : Bool) (it a : Addr) (hne : a ≠ it) (its : Array Value) :
    Draws P w A it [it, a] its.size (fun i v => its[i]? = some v) (fun i h => ItAt k h it a i ∧ SeqAt k h a its) := by
  cases k with
  | true => exact Draws.list hh it a hne its
  | false => exact Draws.tuple hh it a hne its
theorem beginsX (k : Bool) (a : Addr) (its : Array Value) : Begins (.ref a) (itOb k a) fun h => SeqAt k h a its := by
  cases k with
  | true => exact begins_list a its
  | false => exact begins_tuple a its
end

/-! ### one alone -/
def iSeq (K : W.Frag) (te : TE) : TI := fun σ H R => te σ H fun x H1 =>
  (∃ a, x = .ref a ∧ (∃ xs, SqL K H1 a xs) ∧ R (Itl K a) H1) ∨ (∃ a, x = .ref a ∧ (∃ xs, SqT K H1 a xs) ∧ R (Itt K a) H1) ∨ ∃ z, x = .str z ∧ R (Its z) H1
theorem pi_seq {X : Cx} {tg e : Expr} {te : TE} (he : PE X e te) : PI X tg e (iSeq X.K te) := by
  refine ⟨fun pins s σ H R I hw => ?_⟩
  refine thn (he.run pins s σ H _ I hw) fun u s1 hq => ?_
  obtain ⟨x, H1, I1, rx, q1⟩ := hq
  rcases q1 with ⟨a, ex, ⟨xs, hq⟩, q⟩ | ⟨a, ex, ⟨xs, hq⟩, q⟩ | ⟨z, ex, q⟩
  · subst ex
    cases rx
    obtain ⟨its, rv, p, hz⟩ := I1.list hq
    exact wpAny_pyIter_list p.isList (pi_one (tk := s1.toks) I1 _ (turn_list a _) ⟨_, Heap.get?_push_size _ rfl, rfl, rfl⟩ q)
  · subst ex
    cases rx
    obtain ⟨its, rv, p, hz⟩ := I1.tuple hq
    exact wpAny_pyIter_tuple (show s1.heap.IsTuple a its.toArray from p) (pi_one (tk := s1.toks) I1 _ (turn_tuple a _) ⟨_, Heap.get?_push_size _ rfl, rfl, rfl⟩ q)
  · subst ex
    obtain ⟨t, rfl⟩ := rx
    cases ha : z.cps.all (· < 128) with
    | false => exact wpAny_pyIter_wide ha (pi_one (tk := s1.toks) I1 _ (turn_str _ z t "str_iterator" (.inr rfl)) ⟨_, Heap.get?_push_size _ rfl, rfl, rfl⟩ q)
    | true => exact wpAny_pyIter_ascii ha (pi_one (tk := s1.toks) I1 _ (turn_str _ z t "str_ascii_iterator" (.inl rfl)) ⟨_, Heap.get?_push_size _ rfl, rfl, rfl⟩ q)

/-! ### two side by side -/
def It2 (K : W.Frag) (j k : Bool) (a b : Addr) : It where
  go := fun i H => ∃ xs ys x y, SqX K j H a xs ∧ SqX K k H b ys ∧ xs[i]? = some x ∧ ys[i]? = some y
  yld := fun i H v H' => ∃ T x y, v = .ref T ∧ H T = none ∧ H' = upd H T (.tup [x, y]) ∧ (∀ xs, SqX K j H a xs → xs[i]? = some x) ∧ ∀ ys, SqX K k H b ys → ys[i]? = some y
  stop := fun i H => ∃ xs ys, SqX K j H a xs ∧ SqX K k H b ys ∧ i = min xs.length ys.length
theorem turn_two {P : Program} {w : World} {K : W.Frag} {elts : List Expr} {kk : Nat} {tpos : Pos} {j k : Bool} {a b z TI TO i1 i2 : Addr} (S : ZipSep2 z TI TO i1 i2 [i1, a] [i2, b]) (na : a ≠ i1) (nb : b ≠ i2) :
    Turn P w K (.Tuple elts kk tpos) (It2 K j k a b) [z, TI, TO, i1, i2] z (fun i h => IsZip h z TI TO .none ∧ IsTupOf2 h TI (.ref i1) (.ref i2) ∧ (∃ p q, IsTupOf2 h TO p q) ∧ ItAt j h i1 a i ∧ ItAt k h i2 b i) where
  mem := List.mem_cons_self ..
  obj := fun i h st c hc => by
    obtain ⟨hz, hTI, ⟨p, q, hTO⟩, h1, h2⟩ := st
    have hc : c = z ∨ c = TI ∨ c = TO ∨ c = i1 ∨ c = i2 := by simpa using hc
    rcases hc with rfl | rfl | rfl | rfl | rfl
    · exact ⟨_, hz, fun v e => nomatch e⟩
    · exact ⟨_, hTI, fun v e => nomatch e⟩
    · exact ⟨_, hTO, fun v e => nomatch e⟩
    · exact h1.ob
    · exact h2.ob
  keep := fun i h h' st kp => by
    obtain ⟨hz, hTI, ⟨p, q, hTO⟩, h1, h2⟩ := st
    exact ⟨kp z (by simp) _ hz, kp TI (by simp) _ hTI, ⟨p, q, kp TO (by simp) _ hTO⟩, h1.keep fun o e => kp i1 (by simp) o e, h2.keep fun o e => kp i2 (by simp) o e⟩
  item := by
    intro X hP hw hK hc i pins s σ H E I hf st hg
    subst hP hw hK
    obtain ⟨hz, hTI, hTO, h1, h2⟩ := st
    obtain ⟨xs, ys, x, y, qa, qb, hx, hy⟩ := hg
    obtain ⟨us, ru, pa, _⟩ := SqX.at I qa
    obtain ⟨ws, rw, pb, _⟩ := SqX.at I qb
    have hA : X.A.in1.handled = none := I.ok.hd hc
    have WT := WalksT.zipD2 S (drawsX (P := X.prog) (w := X.w) hA j i1 a na us.toArray) (drawsX (P := X.prog) (w := X.w) hA k i2 b nb ws.toArray)
    obtain ⟨u, hu, ruu⟩ := ru.get hx
    obtain ⟨v, hv, rvv⟩ := rw.get hy
    have lt1 : i < us.toArray.size := by simpa using (List.getElem?_eq_some_iff.mp hu).1
    have lt2 : i < ws.toArray.size := by simpa using (List.getElem?_eq_some_iff.mp hv).1
    refine WT.item i s _ _ (by omega) ⟨hz, hTI, hTO, ⟨h1, pa⟩, ⟨h2, pb⟩⟩ fun T vals h' tk hp hT iT mid kp => ?_
    obtain ⟨u2, v2, e1, e2, rfl⟩ := hp
    have e1 : us.toArray[i]? = some u2 := e1
    have e2 : ws.toArray[i]? = some v2 := e2
    have e3 : u = u2 := by rw [List.getElem?_toArray, hu] at e1; exact Option.some.inj e1
    have e4 : v = v2 := by rw [List.getElem?_toArray, hv] at e2; exact Option.some.inj e2
    subst e3 e4
    refine ⟨_, rfl, WT.go elts kk tpos i T { s with heap := h', toks := tk } _ _ mid fun h2' st' kp2 => ?_⟩
    have hTw : T ∉ [z, TO, i1, i2] := WT.apart i T h' mid
    have iT2 : h2'.IsTuple T #[u, v] := iT.at fun o e => kp2 T o hTw e
    have hn : H T = none := I.hok.fresh hT
    have new : ObjOk X.prog X.w (upd H T (.tup [x, y])) h2' T (.tup [x, y]) := ⟨by show 2 ≤ sizeLine; decide, [u, v], .cons ruu (.cons rvv .nil), iT2⟩
    have sub : ∀ c, c ∉ [z, TI, TO, i1, i2] → c ∉ [z, TO, i1, i2] := fun c hc hm => hc (by
      have hm : c = z ∨ c = TO ∨ c = i1 ∨ c = i2 := by simpa using hm
      rcases hm with rfl | rfl | rfl | rfl <;> simp)
    have I1 : Inv X pins σ (upd H T (.tup [x, y])) { s with heap := h2', toks := tk } := I.turnedNew (ch := [z, TI, TO, i1, i2]) (fun c o hc e => kp2 c o (sub c hc) (kp c o (sub c hc) e)) hf hT new
    obtain ⟨hz', hTI', hTO', h1', h2''⟩ := st'
    refine ⟨.ref T, _, I1, rfl, ⟨T, x, y, rfl, hn, rfl, fun l hl => by rw [SqX.inj I hl qa]; exact hx, fun l hl => by rw [SqX.inj I hl qb]; exact hy⟩, ⟨hz', hTI', hTO', h1'.1, h2''.1⟩, fun c hc => ?_⟩
    rw [upd_ne (fun e => ?_)]
    · exact (hf c hc).1
    · rw [← e] at hT
      have hlt : c < s.heap.objs.size := by
        have hc : c = z ∨ c = TI ∨ c = TO ∨ c = i1 ∨ c = i2 := by simpa using hc
        rcases hc with rfl | rfl | rfl | rfl | rfl
        · exact Heap.lt_size hz
        · exact Heap.lt_size hTI
        · obtain ⟨_, _, q⟩ := hTO; exact Heap.lt_size q
        · obtain ⟨_, q, _⟩ := h1.ob; exact Heap.lt_size q
        · obtain ⟨_, q, _⟩ := h2.ob; exact Heap.lt_size q
      exact absurd hT (Nat.not_le.mpr hlt)
  done := by
    intro X hP hw hK hc i pins s σ H E I hf st hg
    subst hP hw hK
    obtain ⟨hz, hTI, hTO, h1, h2⟩ := st
    obtain ⟨xs, ys, qa, qb, hi⟩ := hg
    obtain ⟨us, ru, pa, _⟩ := SqX.at I qa
    obtain ⟨ws, rw, pb, _⟩ := SqX.at I qb
    have hA : X.A.in1.handled = none := I.ok.hd hc
    have WT := WalksT.zipD2 S (drawsX (P := X.prog) (w := X.w) hA j i1 a na us.toArray) (drawsX (P := X.prog) (w := X.w) hA k i2 b nb ws.toArray)
    have l1 := ru.length
    have l2 := rw.length
    have hi2 : i = min us.toArray.size ws.toArray.size := by simp; omega
    refine WT.done s _ _ ?_ fun h' tk kp => ⟨rfl, I.turnedL (t' := tk) (ch := [z, TI, TO, i1, i2]) (fun c o hc e => kp c o (fun hm => hc ?_) e) hf⟩
    · rw [← hi2]
      exact ⟨hz, hTI, hTO, ⟨h1, pa⟩, ⟨h2, pb⟩⟩
    · have hm : c = z ∨ c = TO ∨ c = i1 ∨ c = i2 := by simpa using hm
      rcases hm with rfl | rfl | rfl | rfl <;> simp
  self := fun _ _ _ _ _ st h => wpAny_pyIter_zip st.1 h
def iTwo (K : W.Frag) (ta : TA) : TI := fun σ H R => ta σ H fun vs H1 => ∃ j k a b xs ys, vs = [.ref a, .ref b] ∧ SqX K j H1 a xs ∧ SqX K k H1 b ys ∧ R (It2 K j k a b) H1
theorem pi_two {X : Cx} {e e2 : Expr} {ta : TA} {p pos tpos : Pos} {elts : List Expr} {kk : Nat} (hg : Gl X "zip") (hm : X.mg "zip" = none) (ha : PA X [e, e2] ta)
    (hs : starEach [e, e2] X.env = (false, eval e X.env) :: starEach [e2] X.env := by rfl) (hpl : (backTo pos (starEach [e2] X.env)).any (·.1) = false := by rfl) :
    PI X (.Tuple elts kk tpos) (.Call (.Name "zip" p) [e, e2] [] pos) (iTwo X.K ta) := by
  refine ⟨fun pins s σ H R I hw => ?_⟩
  refine Call_ (ld_blt I hg hm PyProof.Rows.boot_zip (PyProof.Rows.callWith_type1 (thn (ha.run pos pins s σ H _ I hw) fun us s1 hq => ?_) hs hpl))
  obtain ⟨vs, H1, I1, r1, j, k, a, b, xs, ys, ex, qa, qb, q⟩ := hq
  subst ex
  obtain ⟨u, v, rfl, ru, rv⟩ := vals2 r1
  cases ru
  cases rv
  obtain ⟨us, _, pa, _⟩ := SqX.at I1 qa
  obtain ⟨ws, _, pb, _⟩ := SqX.at I1 qb
  refine zip_begins2 (beginsX j a us.toArray) (beginsX k b ws.toArray) pa pb fun h' hz hTI hTO h1 h2 hsz hk => wpAny_pyIter_zip hz ?_
  have la := pa.lt
  have lb := pb.lt
  have I2 : Inv X pins σ H1 { s1 with heap := h' } := I1.kept (t' := s1.toks) hk
  have sep := zip_sep2 (N := s1.heap.objs.size) (fp1 := [a]) (fp2 := [b]) (fun c hc => by rw [List.mem_singleton.mp hc]; exact la) (fun c hc => by rw [List.mem_singleton.mp hc]; exact lb)
  refine ⟨s1.heap.objs.size + 4, [s1.heap.objs.size + 4, s1.heap.objs.size + 2, s1.heap.objs.size + 3, s1.heap.objs.size, s1.heap.objs.size + 1], _, _, H1, rfl, I2, turn_two sep (Nat.ne_of_lt la) (Nat.ne_of_lt (Nat.lt_succ_of_lt lb)), ⟨hz, hTI, ⟨_, _, hTO⟩, .new h1, .new h2⟩, fun c hcm => ?_, q⟩
  have e' : c = s1.heap.objs.size + 4 ∨ c = s1.heap.objs.size + 2 ∨ c = s1.heap.objs.size + 3 ∨ c = s1.heap.objs.size ∨ c = s1.heap.objs.size + 1 := by simpa using hcm
  have hle : s1.heap.objs.size ≤ c := by
    rcases e' with z | z | z | z | z <;> rw [z]
    · exact Nat.le_add_right _ _
    · exact Nat.le_add_right _ _
    · exact Nat.le_add_right _ _
    · exact Nat.le_refl _
    · exact Nat.le_add_right _ _
  exact I1.fpOk hle (I1.hok.fresh hle)
end MD
set_option Elab.async false
set_option linter.all false
set_option maxRecDepth 100000
/-! numbered items of a list or a tuple -/
namespace MD
open PySem PySem.Spec PyProof.Rows L2

set_option maxHeartbeats 1000000 in
/-- enumerate's maker, one argument given -/
theorem num_new {v : Value} {ob : Obj} {Hd : Heap → Prop} (B : Begins v ob Hd) :
    Meets (Builtin.«enumerate.__new__» ⟨[.type "enumerate", v], []⟩) (fun _ R s => Hd s.heap ∧
      R (.ok (.ret (.ref (s.heap.push ob).objs.size))) { s with heap := (s.heap.push ob).push { cls := .type "enumerate", data := .fields #[.none, .bool false, .ref s.heap.objs.size, rawInt 0, .none, .none] } }) :=
  .of_wp fun prog w A R s hh => by
    obtain ⟨hp, gg, dd, tk, os⟩ := s
    obtain ⟨hd, hr⟩ := hh
    have hsub := sub_enumerate
    have go : ∀ {A' : Around} {E : Value → Shared → Prop} {Q : Value → Shared → Prop}, Q (.ref hp.objs.size) ⟨hp.push ob, gg, dd, tk, os⟩ → wpAny (model prog w) A' (pyIter v) Q E ⟨hp, gg, dd, tk, os⟩ :=
      fun q => B.iter prog w _ _ ⟨hp, gg, dd, tk, os⟩ _ hd q
    wp_walk using go
    refine wpAny_stack_any fun st => wpAny_pure ?_
    split
    · rename_i cc _ _ _ _ _
      cases (cc == Value.type "enumerate")
      · wp_walk using go
        exact ⟨_, rfl, hr⟩
      · wp_walk using go
        exact ⟨_, rfl, hr⟩
    · wp_walk using go
      exact ⟨_, rfl, hr⟩
set_option maxHeartbeats 1000000
theorem num_begins {prog : Program} {w : World} {A : Around} {E : Value → Shared → Prop} {s : Shared} {v : Value} {ob : Obj} {Hd : Heap → Prop} {Q : Value → Shared → Prop} (B : Begins v ob Hd) (hd : Hd s.heap)
    (hq : ∀ h', IsEnum h' (s.heap.objs.size + 1) s.heap.objs.size 0 .none → h'.get? s.heap.objs.size = some ob → h'.objs.size = s.heap.objs.size + 2 →
      (∀ b o, s.heap.get? b = some o → h'.get? b = some o) → Q (.ref (s.heap.objs.size + 1)) { s with heap := h' }) :
    wpAny (model prog w) A (call (.type "enumerate") [v]) Q E s := by
  refine callType_new F.called_enumerate (by decide) (F.typeCall_enumerate_1 _) (F.newCall_enumerate_1 _) (fun obj => F.args_object_init_2 obj _) F.entry_enumerate_new (num_new B) ⟨hd, ?_⟩
  have sz : (s.heap.push ob).objs.size = s.heap.objs.size + 1 := Heap.size_push ..
  have last : ((s.heap.push ob).push { cls := .type "enumerate", data := .fields #[.none, .bool false, .ref s.heap.objs.size, rawInt 0, .none, .none] }).get? (s.heap.push ob).objs.size = some { cls := .type "enumerate", data := .fields #[.none, .bool false, .ref s.heap.objs.size, rawInt 0, .none, .none] } := Heap.get?_push_size _ rfl
  rw [sz] at last
  show _ ∧ _
  rw [sz]
  exact ⟨⟨_, last, rfl⟩, hq _ last (Heap.get?_push_of_some _ (Heap.get?_push_size _ B.free)) (by rw [Heap.size_push, sz]) fun b o e => Heap.get?_push_of_some _ (Heap.get?_push_of_some _ e)⟩

def ItN (K : W.Frag) (k : Bool) (c : Int) (a : Addr) : It where
  go := fun i H => ∃ xs x, SqX K k H a xs ∧ xs[i]? = some x
  yld := fun i H v H' => ∃ T x, v = .ref T ∧ H T = none ∧ H' = upd H T (.tup [.int (c + (i : Int)), x]) ∧ ∀ xs, SqX K k H a xs → xs[i]? = some x
  stop := fun i H => ∃ xs, SqX K k H a xs ∧ i = xs.length
theorem turn_num {P : Program} {w : World} {K : W.Frag} {elts : List Expr} {kk : Nat} {tpos : Pos} {k : Bool} {c0 : Int} {a e it : Addr} (hei : e ≠ it) (hea : e ≠ a) (na : a ≠ it) :
    Turn P w K (.Tuple elts kk tpos) (ItN K k c0 a) [e, it] e (fun i h => (∃ old, IsEnum h e it (c0 + (i : Int)) old) ∧ ItAt k h it a i) where
  mem := List.mem_cons_self ..
  obj := fun i h st c hc => by
    obtain ⟨⟨old, he⟩, h1⟩ := st
    have hc : c = e ∨ c = it := by simpa using hc
    rcases hc with rfl | rfl
    · exact ⟨_, he, fun v z => nomatch z⟩
    · exact h1.ob
  keep := fun i h h' st kp => by
    obtain ⟨⟨old, he⟩, h1⟩ := st
    exact ⟨⟨old, kp e (by simp) _ he⟩, h1.keep fun o z => kp it (by simp) o z⟩
  item := by
    intro X hP hw hK hc i pins s σ H E I hf st hg
    subst hP hw hK
    obtain ⟨he, h1⟩ := st
    obtain ⟨xs, x, qa, hx⟩ := hg
    obtain ⟨us, ru, pa, _⟩ := SqX.at I qa
    have hA : X.A.in1.handled = none := I.ok.hd hc
    have WT := WalksT.enumFrom c0 (drawsX (P := X.prog) (w := X.w) hA k it a na us.toArray) e hei (by simp [hei, hea]) (by simp)
    obtain ⟨u, hu, ruu⟩ := ru.get hx
    have lt1 : i < us.toArray.size := by simpa using (List.getElem?_eq_some_iff.mp hu).1
    refine WT.item i s _ _ lt1 ⟨he, h1, pa⟩ fun T vals h' tk hp hT iT mid kp => ?_
    obtain ⟨t, u2, e1, rfl⟩ := hp
    have e1 : us.toArray[i]? = some u2 := e1
    have e3 : u = u2 := by rw [List.getElem?_toArray, hu] at e1; exact Option.some.inj e1
    subst e3
    refine ⟨_, rfl, WT.go elts kk tpos i T { s with heap := h', toks := tk } _ _ mid fun h2' st' kp2 => ?_⟩
    have hTw : T ∉ [e, it] := WT.apart i T h' mid
    have iT2 : h2'.IsTuple T #[.int (c0 + (i : Int)) t, u] := iT.at fun o z => kp2 T o hTw z
    have hn : H T = none := I.hok.fresh hT
    have new : ObjOk X.prog X.w (upd H T (.tup [.int (c0 + (i : Int)), x])) h2' T (.tup [.int (c0 + (i : Int)), x]) := ⟨by show 2 ≤ sizeLine; decide, [.int (c0 + (i : Int)) t, u], .cons ⟨_, rfl⟩ (.cons ruu .nil), iT2⟩
    have I1 : Inv X pins σ (upd H T (.tup [.int (c0 + (i : Int)), x])) { s with heap := h2', toks := tk } := I.turnedNew (ch := [e, it]) (fun c o hc z => kp2 c o hc (kp c o hc z)) hf hT new
    obtain ⟨⟨old', he'⟩, h1', _⟩ := st'
    refine ⟨.ref T, _, I1, rfl, ⟨T, x, rfl, hn, rfl, fun l hl => by rw [SqX.inj I hl qa]; exact hx⟩, ⟨⟨old', he'⟩, h1'⟩, fun c hc => ?_⟩
    rw [upd_ne (fun z => ?_)]
    · exact (hf c hc).1
    · rw [← z] at hT
      have hlt : c < s.heap.objs.size := by
        have hc : c = e ∨ c = it := by simpa using hc
        rcases hc with rfl | rfl
        · obtain ⟨_, q⟩ := he; exact Heap.lt_size q
        · obtain ⟨_, q, _⟩ := h1.ob; exact Heap.lt_size q
      exact absurd hT (Nat.not_le.mpr hlt)
  done := by
    intro X hP hw hK hc i pins s σ H E I hf st hg
    subst hP hw hK
    obtain ⟨he, h1⟩ := st
    obtain ⟨xs, qa, hi⟩ := hg
    obtain ⟨us, ru, pa, _⟩ := SqX.at I qa
    have hA : X.A.in1.handled = none := I.ok.hd hc
    have WT := WalksT.enumFrom c0 (drawsX (P := X.prog) (w := X.w) hA k it a na us.toArray) e hei (by simp [hei, hea]) (by simp)
    have l1 := ru.length
    have hi2 : i = us.toArray.size := by simp; omega
    refine WT.done s _ _ ?_ fun h' tk kp => ⟨rfl, I.turnedL (t' := tk) (ch := [e, it]) (fun c o hc z => kp c o hc z) hf⟩
    rw [← hi2]
    exact ⟨he, h1, pa⟩
  self := fun _ _ _ _ _ st h => let ⟨⟨_, he⟩, _⟩ := st; wpAny_pyIter_enum he h
def iNum (K : W.Frag) (ta : TA) : TI := fun σ H R => ta σ H fun vs H1 => ∃ k a xs, vs = [.ref a] ∧ SqX K k H1 a xs ∧ R (ItN K k 0 a) H1
theorem pi_num {X : Cx} {e : Expr} {ta : TA} {p pos tpos : Pos} {elts : List Expr} {kk : Nat} (hg : Gl X "enumerate") (hm : X.mg "enumerate" = none) (ha : PA X [e] ta) (hs : starEach [e] X.env = [(false, eval e X.env)] := by rfl) :
    PI X (.Tuple elts kk tpos) (.Call (.Name "enumerate" p) [e] [] pos) (iNum X.K ta) := by
  refine ⟨fun pins s σ H R I hw => ?_⟩
  refine Call_ (ld_blt I hg hm boot_enumerate (PyProof.Rows.callWith_type1 (thn (ha.run pos pins s σ H _ I hw) fun us s1 hq => ?_) hs rfl))
  obtain ⟨vs, H1, I1, r1, k, a, xs, ex, qa, q⟩ := hq
  subst ex
  obtain ⟨u, rfl, ru⟩ := vals1 r1
  cases ru
  obtain ⟨us, _, pa, _⟩ := SqX.at I1 qa
  refine num_begins (beginsX k a us.toArray) pa fun h' he h1 hsz hk => wpAny_pyIter_enum he ?_
  have la := pa.lt
  have I2 : Inv X pins σ H1 { s1 with heap := h' } := I1.kept (t' := s1.toks) hk
  have n1 : (s1.heap.objs.size + 1 : Nat) ≠ a := Nat.ne_of_gt (Nat.lt_succ_of_lt la)
  refine ⟨s1.heap.objs.size + 1, [s1.heap.objs.size + 1, s1.heap.objs.size], _, _, H1, rfl, I2, turn_num (Nat.succ_ne_self _) n1 (Nat.ne_of_lt la), ⟨⟨.none, by simpa using he⟩, .new h1⟩, fun c hcm => ?_, q⟩
  have e' : c = s1.heap.objs.size + 1 ∨ c = s1.heap.objs.size := by simpa using hcm
  have hle : s1.heap.objs.size ≤ c := by
    rcases e' with z | z <;> rw [z]
    · exact Nat.le_add_right _ _
    · exact Nat.le_refl _
  exact I1.fpOk hle (I1.hok.fresh hle)
end MD
set_option Elab.async false
set_option linter.all false
set_option maxRecDepth 100000
set_option maxHeartbeats 1000000
/-! what loops and comprehensions walk -/
namespace MD
open PySem PySem.Spec PyProof.Rows L2

def kindB : D → Bool
  | .tup _ => false
  | _ => true
def fixOf : D → Option (List D)
  | .tup l => some l
  | .lst l => some l
  | .scr l => some l
  | _ => none
def seqNow (x : D) (i : Nat) (S : Store) : Option (Option D) := match itemsOf S x with
  | some (_, l) => if l.length < i then none else some l[i]?
  | none => none
def seqSrc (x : D) : Src := match fixOf x with
  | some l => .fix l
  | none => .dyn (seqNow x)
def signs (s : Str) : List D := s.cps.toList.map fun c => .str ⟨#[c]⟩
def twoNow (x y : D) (i : Nat) (S : Store) : Option (Option D) := match itemsOf S x, itemsOf S y with
  | some (_, l), some (_, r) => if min l.length r.length < i then none else (match l[i]?, r[i]? with
    | some a, some b => some (some (.tup [a, b]))
    | _, _ => some none)
  | _, _ => none
def zipD : List D → List D → List D
  | a :: l, b :: r => .tup [a, b] :: zipD l r
  | _, _ => []
def twoSrc (x y : D) : Src := match fixOf x, fixOf y with
  | some l, some r => .fix (zipD l r)
  | _, _ => .dyn (twoNow x y)
def numNow (x : D) (i : Nat) (S : Store) : Option (Option D) := match itemsOf S x with
  | some (_, l) => if l.length < i then none else some (l[i]?.map fun d => .tup [.int (i : Int), d])
  | none => none
def numD : Nat → List D → List D
  | _, [] => []
  | n, d :: l => .tup [.int (n : Int), d] :: numD (n + 1) l
def numSrc (x : D) : Src := match fixOf x with
  | some l => .fix (numD 0 l)
  | none => .dyn (numNow x)
def rngD (lo : Int) (n : Nat) : List D := (List.range n).map fun i => .int (lo + (i : Nat))
def stepD (lo c : Int) (n : Nat) : List D := (List.range n).map fun i => .int (lo + (i : Nat) * c)

theorem fix_items {x : D} {l : List D} (h : fixOf x = some l) (S : Store) : itemsOf S x = some (!decide (kindB x = false), l) := by
  unfold fixOf at h
  split at h
  · exact (by rw [← Option.some.inj h]; rfl)
  · exact (by rw [← Option.some.inj h]; rfl)
  · exact (by rw [← Option.some.inj h]; rfl)
  · cases h
theorem items_kind {x : D} {S : Store} {b : Bool} {l : List D} (h : itemsOf S x = some (b, l)) : b = kindB x := by
  unfold itemsOf at h
  split at h
  · injection h with h; injection h with h1 h2; exact h1.symm
  · injection h with h; injection h with h1 h2; exact h1.symm
  · injection h with h; injection h with h1 h2; exact h1.symm
  · split at h
    · injection h with h; injection h with h1 h2; exact h1.symm
    · cases h
  · cases h
theorem zipD_length : ∀ l r : List D, (zipD l r).length = min l.length r.length
  | [], r => by
    rw [List.length_nil, Nat.zero_min]
    cases r <;> rfl
  | a :: l, [] => rfl
  | a :: l, b :: r => by
    show (zipD l r).length + 1 = _
    rw [zipD_length l r, List.length_cons, List.length_cons]
    omega
theorem zipD_get : ∀ (l r : List D) (i : Nat), (zipD l r)[i]? = match l[i]?, r[i]? with
    | some a, some b => some (.tup [a, b])
    | _, _ => none
  | [], r, i => by
    rw [show zipD [] r = [] by cases r <;> rfl]
    simp
  | a :: l, [], i => by
    rw [show zipD (a :: l) [] = [] from rfl]
    simp
  | a :: l, b :: r, 0 => rfl
  | a :: l, b :: r, i + 1 => by
    have := zipD_get l r i
    simpa [zipD] using this
theorem numD_length : ∀ (n : Nat) (l : List D), (numD n l).length = l.length
  | _, [] => rfl
  | n, d :: l => by
    show (numD (n + 1) l).length + 1 = l.length + 1
    rw [numD_length]
theorem numD_get : ∀ (l : List D) (n i : Nat), (numD n l)[i]? = l[i]?.map fun d => .tup [.int ((n + i : Nat) : Int), d]
  | [], n, i => by simp [numD]
  | d :: l, n, 0 => by simp [numD]
  | d :: l, n, i + 1 => by
    have := numD_get l (n + 1) i
    rw [show n + 1 + i = n + (i + 1) by omega] at this
    simpa [numD] using this
theorem seqSrc_now (x : D) (i : Nat) (S : Store) : (seqSrc x).now i S = seqNow x i S := by
  unfold seqSrc
  split
  · rename_i l h
    unfold seqNow
    rw [fix_items h S]
    rfl
  · rfl
theorem twoSrc_now (x y : D) (i : Nat) (S : Store) : (twoSrc x y).now i S = twoNow x y i S := by
  unfold twoSrc
  split
  · rename_i l r h1 h2
    unfold twoNow
    rw [fix_items h1 S, fix_items h2 S]
    show (if (zipD l r).length < i then none else some (zipD l r)[i]?) = _
    rw [zipD_length, zipD_get]
    dsimp only
    split
    · rfl
    · cases l[i]? with
      | none => rfl
      | some a => cases r[i]? <;> rfl
  · rfl
theorem numSrc_now (x : D) (i : Nat) (S : Store) : (numSrc x).now i S = numNow x i S := by
  unfold numSrc
  split
  · rename_i l h
    unfold numNow
    rw [fix_items h S]
    show (if (numD 0 l).length < i then none else some (numD 0 l)[i]?) = _
    rw [numD_length, numD_get, Nat.zero_add]
  · rfl
section
variable {K : W.Frag} {G G0 H H0 : Hp} {ρ ρ0 : List Addr} {S : Store} {x y d : D} {a b : Addr} {i : Nat} {J : It}
theorem Gives.congr {src src' : Src} (e : ∀ i S, src'.now i S = src.now i S) (g : Gives K J src G0 H0 ρ0) : Gives K J src' G0 H0 ρ0 :=
  ⟨fun i d G H ρ S h => g.goes i d G H ρ S (by rw [← e]; exact h), fun i G H ρ S h => g.stops i G H ρ S (by rw [← e]; exact h), fun i d G H ρ S x H' h => g.yields i d G H ρ S x H' (by rw [← e]; exact h)⟩
theorem items_X (rs : RS K G H ρ S) (rx : Rep K G ρ x (.ref a)) {k : Bool} {l : List D} (h : itemsOf S x = some (k, l)) : ∃ vs, SqX K (kindB x) H a vs ∧ Reps K G ρ l vs := by
  obtain ⟨a', vs, ev, hl, h1, h2⟩ := items_rep rs rx h
  have ea : a = a' := V.ref.inj ev
  subst ea
  have hk := items_kind h
  rw [← hk]
  cases k with
  | true => exact ⟨vs, h1 rfl, hl⟩
  | false => exact ⟨vs, h2 rfl, hl⟩
theorem now_at (rs : RS K G H ρ S) (rx : Rep K G ρ x (.ref a)) (h : seqNow x i S = some (some d)) : ∃ vs v, SqX K (kindB x) H a vs ∧ vs[i]? = some v ∧ Rep K G ρ d v := by
  unfold seqNow at h
  split at h
  · rename_i k l hi
    obtain ⟨vs, q, hl⟩ := items_X rs rx hi
    split at h
    · cases h
    · obtain ⟨v, h1, h2⟩ := hl.get (Option.some.inj h)
      exact ⟨vs, v, q, h1, h2⟩
  · cases h
theorem now_end (rs : RS K G H ρ S) (rx : Rep K G ρ x (.ref a)) (h : seqNow x i S = some none) : ∃ vs, SqX K (kindB x) H a vs ∧ i = vs.length := by
  unfold seqNow at h
  split at h
  · rename_i k l hi
    obtain ⟨vs, q, hl⟩ := items_X rs rx hi
    split at h
    · cases h
    · have h1 : l.length ≤ i := List.getElem?_eq_none_iff.mp (Option.some.inj h)
      exact ⟨vs, q, by rw [← hl.length]; omega⟩
  · cases h
theorem gives_seqL (rx : Rep K G0 ρ0 x (.ref a)) (hk : kindB x = true) : Gives K (Itl K a) (seqSrc x) G0 H0 ρ0 := by
  refine Gives.congr (seqSrc_now x) (src := .dyn (seqNow x)) ⟨fun i d G H ρ S h rs g => ?_, fun i G H ρ S h rs g => ?_, fun i d G H ρ S v H' h rs g hy => ?_⟩
  · obtain ⟨vs, v, q, hv, _⟩ := now_at rs (Rep.mono g.gr g.pl _ _ rx) h
    rw [hk] at q
    exact ⟨vs, v, q, hv⟩
  · obtain ⟨vs, q, hv⟩ := now_end rs (Rep.mono g.gr g.pl _ _ rx) h
    rw [hk] at q
    exact ⟨vs, q, by omega⟩
  · obtain ⟨vs, w, q, hv, rw'⟩ := now_at rs (Rep.mono g.gr g.pl _ _ rx) h
    rw [hk] at q
    obtain ⟨rfl, f⟩ := hy
    have e : w = v := by
      have := f vs q
      rw [hv] at this
      exact Option.some.inj this
    exact ⟨G, Go.refl, rs, by rw [← e]; exact rw'⟩
theorem gives_seqT (rx : Rep K G0 ρ0 x (.ref a)) (hk : kindB x = false) : Gives K (Itt K a) (seqSrc x) G0 H0 ρ0 := by
  refine Gives.congr (seqSrc_now x) (src := .dyn (seqNow x)) ⟨fun i d G H ρ S h rs g => ?_, fun i G H ρ S h rs g => ?_, fun i d G H ρ S v H' h rs g hy => ?_⟩
  · obtain ⟨vs, v, q, hv, _⟩ := now_at rs (Rep.mono g.gr g.pl _ _ rx) h
    rw [hk] at q
    exact ⟨vs, v, q, hv⟩
  · obtain ⟨vs, q, hv⟩ := now_end rs (Rep.mono g.gr g.pl _ _ rx) h
    rw [hk] at q
    exact ⟨vs, q, by omega⟩
  · obtain ⟨vs, w, q, hv, rw'⟩ := now_at rs (Rep.mono g.gr g.pl _ _ rx) h
    rw [hk] at q
    obtain ⟨rfl, f⟩ := hy
    have e : w = v := by
      have := f vs q
      rw [hv] at this
      exact Option.some.inj this
    exact ⟨G, Go.refl, rs, by rw [← e]; exact rw'⟩
/-- a new pair -/
theorem pair_new (rs : RS K G H ρ S) {T : Addr} {v w : V} {e : D} (hT : H T = none) (rd : Rep K G ρ d v) (re : Rep K G ρ e w) :
    ∃ G', Go G H ρ G' (upd H T (.tup [v, w])) ρ ∧ RS K G' (upd H T (.tup [v, w])) ρ S ∧ Rep K G' ρ (.tup [d, e]) (.ref T) := by
  have hg := rs.none_of hT
  refine ⟨upd G T (.tup [v, w]), Go.new hT hg _, rs.new hT _, T, [v, w], rfl, SqT.of upd_same, ?_⟩
  exact ⟨v, [w], rfl, Rep.mono (GLe.upd hg) (PLe.refl ρ) _ _ rd, w, [], rfl, Rep.mono (GLe.upd hg) (PLe.refl ρ) _ _ re, rfl⟩
theorem two_at {p : D} (h : twoNow x y i S = some (some p)) : ∃ d e, p = .tup [d, e] ∧ seqNow x i S = some (some d) ∧ seqNow y i S = some (some e) := by
  unfold twoNow at h
  split at h
  · rename_i j l k r h1 h2
    split at h
    · cases h
    · split at h
      · rename_i d e hd he
        refine ⟨d, e, (Option.some.inj (Option.some.inj h)).symm, ?_, ?_⟩
        · unfold seqNow
          rw [h1]
          dsimp only
          have := (List.getElem?_eq_some_iff.mp hd).1
          rw [if_neg (by omega), hd]
        · unfold seqNow
          rw [h2]
          dsimp only
          have := (List.getElem?_eq_some_iff.mp he).1
          rw [if_neg (by omega), he]
      · cases h
  · cases h
theorem gives_two (rx : Rep K G0 ρ0 x (.ref a)) (ry : Rep K G0 ρ0 y (.ref b)) : Gives K (It2 K (kindB x) (kindB y) a b) (twoSrc x y) G0 H0 ρ0 := by
  refine Gives.congr (twoSrc_now x y) (src := .dyn (twoNow x y)) ⟨fun i d G H ρ S h rs g => ?_, fun i G H ρ S h rs g => ?_, fun i d G H ρ S v H' h rs g hy => ?_⟩
  · obtain ⟨d1, d2, _, h1, h2⟩ := two_at h
    obtain ⟨vs, v, q, hv, _⟩ := now_at rs (Rep.mono g.gr g.pl _ _ rx) h1
    obtain ⟨ws, w, q2, hw, _⟩ := now_at rs (Rep.mono g.gr g.pl _ _ ry) h2
    exact ⟨vs, ws, v, w, q, q2, hv, hw⟩
  · have h : twoNow x y i S = some none := h
    unfold twoNow at h
    split at h
    · rename_i j l k r h1 h2
      obtain ⟨vs, q, hl⟩ := items_X rs (Rep.mono g.gr g.pl _ _ rx) h1
      obtain ⟨ws, q2, hr⟩ := items_X rs (Rep.mono g.gr g.pl _ _ ry) h2
      split at h
      · cases h
      · rename_i hlt
        refine ⟨vs, ws, q, q2, ?_⟩
        rw [← hl.length, ← hr.length]
        split at h
        · cases h
        · rename_i hne
          by_cases c1 : i < l.length
          · by_cases c2 : i < r.length
            · exact absurd (List.getElem?_eq_getElem c2) (fun z => hne _ _ (List.getElem?_eq_getElem c1) z)
            · omega
          · omega
    · cases h
  · obtain ⟨d1, d2, ed, h1, h2⟩ := two_at h
    obtain ⟨vs, v1, q, hv, r1⟩ := now_at rs (Rep.mono g.gr g.pl _ _ rx) h1
    obtain ⟨ws, w1, q2, hw, r2⟩ := now_at rs (Rep.mono g.gr g.pl _ _ ry) h2
    obtain ⟨T, v2, w2, rfl, hT, rfl, f1, f2⟩ := hy
    have e1 : v1 = v2 := by
      have := f1 vs q
      rw [hv] at this
      exact Option.some.inj this
    have e2 : w1 = w2 := by
      have := f2 ws q2
      rw [hw] at this
      exact Option.some.inj this
    subst e1 e2 ed
    exact pair_new rs hT r1 r2
theorem num_at {p : D} (h : numNow x i S = some (some p)) : ∃ d, p = .tup [.int (i : Int), d] ∧ seqNow x i S = some (some d) := by
  unfold numNow at h
  unfold seqNow
  split at h
  · rename_i j l h1
    split at h
    · cases h
    · rename_i hlt
      rw [if_neg hlt]
      cases hd : l[i]? with
      | none => rw [hd] at h; cases h
      | some d =>
        rw [hd] at h
        exact ⟨d, (Option.some.inj (Option.some.inj h)).symm, rfl⟩
  · cases h
theorem gives_num (rx : Rep K G0 ρ0 x (.ref a)) : Gives K (ItN K (kindB x) 0 a) (numSrc x) G0 H0 ρ0 := by
  refine Gives.congr (numSrc_now x) (src := .dyn (numNow x)) ⟨fun i d G H ρ S h rs g => ?_, fun i G H ρ S h rs g => ?_, fun i d G H ρ S v H' h rs g hy => ?_⟩
  · obtain ⟨d1, _, h1⟩ := num_at h
    obtain ⟨vs, v, q, hv, _⟩ := now_at rs (Rep.mono g.gr g.pl _ _ rx) h1
    exact ⟨vs, v, q, hv⟩
  · have h : numNow x i S = some none := h
    have h1 : seqNow x i S = some none := by
      unfold numNow at h
      unfold seqNow
      split at h
      · rename_i j l h1
        split at h
        · cases h
        · rename_i hlt
          rw [if_neg hlt]
          cases hd : l[i]? with
          | none => rfl
          | some d => rw [hd] at h; cases h
      · cases h
    exact now_end rs (Rep.mono g.gr g.pl _ _ rx) h1
  · obtain ⟨d1, ed, h1⟩ := num_at h
    obtain ⟨vs, v1, q, hv, r1⟩ := now_at rs (Rep.mono g.gr g.pl _ _ rx) h1
    obtain ⟨T, v2, rfl, hT, rfl, f1⟩ := hy
    have e1 : v1 = v2 := by
      have := f1 vs q
      rw [hv] at this
      exact Option.some.inj this
    subst e1 ed
    rw [Int.zero_add]
    exact pair_new rs hT rfl r1
theorem gives_fn {n : Nat} {f : Nat → Int} (J : It) (hg : ∀ i H, i < n → J.go i H) (hs : ∀ i H, n ≤ i → J.stop i H) (hy : ∀ i H v H', J.yld i H v H' → H' = H ∧ v = .int (f i)) : Gives K J (.fix ((List.range n).map fun i => .int (f i))) G0 H0 ρ0 := by
  have key : ∀ (i : Nat) (S : Store) (o : Option D), (Src.fix ((List.range n).map fun i => D.int (f i))).now i S = some o → (∀ d, o = some d → i < n ∧ d = .int (f i)) ∧ (o = none → n ≤ i) := by
    intro i S o h
    have h : (if ((List.range n).map fun i => D.int (f i)).length < i then none else some ((List.range n).map fun i => D.int (f i))[i]?) = some o := h
    split at h
    · cases h
    · have h := Option.some.inj h
      rw [List.getElem?_map] at h
      constructor
      · intro d ed
        rw [ed] at h
        by_cases hi : i < n
        · rw [List.getElem?_range hi] at h
          exact ⟨hi, (Option.some.inj h).symm⟩
        · rw [List.getElem?_eq_none (by simpa using Nat.not_lt.mp hi)] at h
          cases h
      · intro eo
        rw [eo] at h
        by_cases hi : i < n
        · rw [List.getElem?_range hi] at h
          cases h
        · exact Nat.not_lt.mp hi
  refine ⟨fun i d G H ρ S h rs g => hg i H ((key i S _ h).1 d rfl).1, fun i G H ρ S h rs g => hs i H ((key i S _ h).2 rfl), fun i d G H ρ S v H' h rs g y => ?_⟩
  obtain ⟨rfl, rfl⟩ := hy i H v H' y
  exact ⟨G, Go.refl, rs, by rw [((key i S _ h).1 d rfl).2]; exact rfl⟩
theorem gives_sign {z : Str} : Gives K (Its z) (.fix (signs z)) G0 H0 ρ0 := by
  have key : ∀ (i : Nat) (S : Store) (o : Option D), (Src.fix (signs z)).now i S = some o → o = z.cps[i]?.map fun c => D.str ⟨#[c]⟩ := by
    intro i S o h
    have h : (if (signs z).length < i then none else some (signs z)[i]?) = some o := h
    split at h
    · cases h
    · have h := Option.some.inj h
      unfold signs at h
      rw [List.getElem?_map] at h
      rw [← h]
      simp
  refine ⟨fun i d G H ρ S h rs g => ?_, fun i G H ρ S h rs g => ?_, fun i d G H ρ S v H' h rs g y => ?_⟩
  · have e := key i S _ h
    show i < z.cps.size
    cases q : z.cps[i]? with
    | none => rw [q] at e; cases e
    | some c => exact (Array.getElem?_eq_some_iff.mp q).1
  · have e := key i S _ h
    show z.cps.size ≤ i
    cases q : z.cps[i]? with
    | none => exact Array.getElem?_eq_none_iff.mp q
    | some c => rw [q] at e; cases e
  · have e := key i S _ h
    obtain ⟨rfl, c, hc, rfl⟩ := y
    rw [hc] at e
    have e := Option.some.inj e
    exact ⟨G, Go.refl, rs, by rw [e]; exact rfl⟩
end

/-! ### the rules -/
def mSeqI (m : M D) : M Src := fun e S => bnd (m e S) fun x S1 => match x with
  | .str s => .some (.fix (signs s), S1)
  | x => (match itemsOf S1 x with
    | some _ => .some (seqSrc x, S1)
    | none => .none)
def mTwoI (m : M (List D)) : M Src := fun e S => bnd (m e S) fun ds S1 => match ds with
  | [x, y] => (match itemsOf S1 x, itemsOf S1 y with
    | some _, some _ => .some (twoSrc x y, S1)
    | _, _ => .none)
  | _ => .none
def mNumI (m : M (List D)) : M Src := fun e S => bnd (m e S) fun ds S1 => match ds with
  | [x] => (match itemsOf S1 x with
    | some _ => .some (numSrc x, S1)
    | _ => .none)
  | _ => .none
def smI (j : Int) : Bool := decide (-(2 ^ 62) ≤ j) && decide (j < 2 ^ 62)
def mRng1 (m : M (List D)) : M Src := fun e S => bnd (m e S) fun ds S1 => match ds with
  | [.int j] => if smI j then .some (.fix (rngD 0 j.toNat), S1) else .none
  | _ => .none
def mRng2 (m : M (List D)) : M Src := fun e S => bnd (m e S) fun ds S1 => match ds with
  | [.int i, .int j] => if smI i && smI j then .some (.fix (rngD i (j - i).toNat), S1) else .none
  | _ => .none
def rgOk (i j c : Int) : Bool := decide (c ≠ 0) && decide (c.natAbs < 1073741824) && Builtin.Range.small i j c && decide (0 ≤ Builtin.Range.rangeSize i j c)
def mRng3 (m : M (List D)) : M Src := fun e S => bnd (m e S) fun ds S1 => match ds with
  | [.int i, .int j, .int c] => if rgOk i j c then .some (.fix (stepD i c (Builtin.Range.rangeSize i j c).toNat), S1) else .none
  | _ => .none
section
variable {X : Cx} {Wx : WX} {tg e e2 : Expr}
theorem pid_seq {m : M D} (h : PD X Wx e m) : PID X Wx tg e (mSeqI m) := by
  obtain ⟨t, h1, h2⟩ := h
  refine ⟨_, pi_seq h1, fun σ H R e G ρ S he rs q => ?_⟩
  refine h2 σ H _ e G ρ S he rs (Aft.imp (Aft.bind q) fun x S1 G1 H1 ρ1 g1 rs1 k v rv => ?_)
  split at k
  · rename_i s
    exact .inr (.inr ⟨s, rv, k G1 H1 ρ1 Go.refl rs1 _ gives_sign⟩)
  · split at k
    · rename_i x _ p hp
      obtain ⟨b, l⟩ := p
      obtain ⟨a, vs, ev, hl, q1, q2⟩ := items_rep rs1 rv hp
      subst ev
      have hk := items_kind hp
      cases b with
      | true => exact .inl ⟨a, rfl, ⟨vs, q1 rfl⟩, k G1 H1 ρ1 Go.refl rs1 _ (gives_seqL rv hk.symm)⟩
      | false => exact .inr (.inl ⟨a, rfl, ⟨vs, q2 rfl⟩, k G1 H1 ρ1 Go.refl rs1 _ (gives_seqT rv hk.symm)⟩)
    · exact k.elim
theorem pid_two {m : M (List D)} {p pos tpos : Pos} {elts : List Expr} {kk : Nat} (hg : Gl X "zip") (hm : X.mg "zip" = none) (h : PAs X Wx [e, e2] m)
    (hs : starEach [e, e2] X.env = (false, eval e X.env) :: starEach [e2] X.env := by rfl) (hpl : (backTo pos (starEach [e2] X.env)).any (·.1) = false := by rfl) :
    PID X Wx (.Tuple elts kk tpos) (.Call (.Name "zip" p) [e, e2] [] pos) (mTwoI m) := by
  obtain ⟨t, h1, h2⟩ := h
  refine ⟨_, pi_two hg hm h1 hs hpl, fun σ H R e G ρ S he rs q => ?_⟩
  refine h2 σ H _ e G ρ S he rs (Aft.imp (Aft.bind q) fun ds S1 G1 H1 ρ1 g1 rs1 k vs rv => ?_)
  split at k
  · rename_i x y
    obtain ⟨v, u, ev, r1, r2⟩ := rv.two_of
    subst ev
    split at k
    · rename_i p q hp hq
      obtain ⟨b, l⟩ := p
      obtain ⟨c, r⟩ := q
      obtain ⟨a, vs, ea, _⟩ := items_rep rs1 r1 hp
      obtain ⟨a', ws, ea', _⟩ := items_rep rs1 r2 hq
      subst ea ea'
      obtain ⟨vs', q1, _⟩ := items_X rs1 r1 hp
      obtain ⟨ws', q2, _⟩ := items_X rs1 r2 hq
      exact ⟨_, _, a, a', vs', ws', rfl, q1, q2, k G1 H1 ρ1 Go.refl rs1 _ (gives_two r1 r2)⟩
    · exact k.elim
  · exact k.elim
theorem pid_num {m : M (List D)} {p pos tpos : Pos} {elts : List Expr} {kk : Nat} (hg : Gl X "enumerate") (hm : X.mg "enumerate" = none) (h : PAs X Wx [e] m) (hs : starEach [e] X.env = [(false, eval e X.env)] := by rfl) :
    PID X Wx (.Tuple elts kk tpos) (.Call (.Name "enumerate" p) [e] [] pos) (mNumI m) := by
  obtain ⟨t, h1, h2⟩ := h
  refine ⟨_, pi_num hg hm h1 hs, fun σ H R e G ρ S he rs q => ?_⟩
  refine h2 σ H _ e G ρ S he rs (Aft.imp (Aft.bind q) fun ds S1 G1 H1 ρ1 g1 rs1 k vs rv => ?_)
  split at k
  · rename_i x
    obtain ⟨v, r, ev, r1, er⟩ := rv
    have er : r = [] := er
    subst er
    split at k
    · rename_i p hp
      obtain ⟨b, l⟩ := p
      obtain ⟨a, vs, ea, _⟩ := items_rep rs1 r1 hp
      subst ea
      obtain ⟨vs', q1, _⟩ := items_X rs1 r1 hp
      exact ⟨_, a, vs', ev, q1, k G1 H1 ρ1 Go.refl rs1 _ (gives_num r1)⟩
    · exact k.elim
  · exact k.elim
theorem smI_iff {j : Int} (h : smI j = true) : -(2 ^ 62) ≤ j ∧ j < 2 ^ 62 := by
  unfold smI at h
  rw [Bool.and_eq_true] at h
  exact ⟨of_decide_eq_true h.1, of_decide_eq_true h.2⟩
theorem pid_rng1 {m : M (List D)} {p pos : Pos} (hg : Gl X "range") (hm : X.mg "range" = none) (h : PAs X Wx [e] m) (hs : starEach [e] X.env = [(false, eval e X.env)] := by rfl) : PID X Wx tg (.Call (.Name "range" p) [e] [] pos) (mRng1 m) := by
  obtain ⟨t, h1, h2⟩ := h
  refine ⟨_, pi_range1 hg hm h1 hs, fun σ H R e G ρ S he rs q => ?_⟩
  refine h2 σ H _ e G ρ S he rs (Aft.imp (Aft.bind q) fun ds S1 G1 H1 ρ1 g1 rs1 k vs rv => ?_)
  split at k
  · rename_i j
    split at k
    · rename_i hc
      obtain ⟨v, r, ev, r1, er⟩ := rv
      have er : r = [] := er
      have r1 : v = .int j := r1
      subst er r1
      have := smI_iff hc
      exact ⟨j, ev, this.1, this.2, k G1 H1 ρ1 Go.refl rs1 _ (gives_fn (f := fun i => 0 + (i : Int)) _ (fun i H h => h) (fun i H h => h) fun i H v H' y => y)⟩
    · exact k.elim
  · exact k.elim
theorem pid_rng2 {m : M (List D)} {p pos : Pos} (hg : Gl X "range") (hm : X.mg "range" = none) (h : PAs X Wx [e, e2] m) (hs : starEach [e, e2] X.env = [(false, eval e X.env), (false, eval e2 X.env)] := by rfl) (hs2 : starEach [e2] X.env = [(false, eval e2 X.env)] := by rfl) :
    PID X Wx tg (.Call (.Name "range" p) [e, e2] [] pos) (mRng2 m) := by
  obtain ⟨t, h1, h2⟩ := h
  refine ⟨_, pi_range2 hg hm h1 hs hs2, fun σ H R e G ρ S he rs q => ?_⟩
  refine h2 σ H _ e G ρ S he rs (Aft.imp (Aft.bind q) fun ds S1 G1 H1 ρ1 g1 rs1 k vs rv => ?_)
  split at k
  · rename_i i j
    split at k
    · rename_i hc
      rw [Bool.and_eq_true] at hc
      obtain ⟨v, u, ev, r1, r2⟩ := rv.two_of
      have r1 : v = .int i := r1
      have r2 : u = .int j := r2
      subst r1 r2
      have c1 := smI_iff hc.1
      have c2 := smI_iff hc.2
      exact ⟨i, j, ev, ⟨c1.1, c1.2, c2.1, c2.2⟩, k G1 H1 ρ1 Go.refl rs1 _ (gives_fn (f := fun n => i + (n : Int)) _ (fun i H h => h) (fun i H h => h) fun i H v H' y => y)⟩
    · exact k.elim
  · exact k.elim
end
end MD
set_option Elab.async false
set_option linter.all false
set_option maxRecDepth 100000
set_option maxHeartbeats 1000000
/-! comprehensions -/
namespace MD
open PySem PySem.Spec PyProof.Rows L2

/-! ### one reading for all contexts -/
def tE (K : W.Frag) (m : M D) : TE := fun σ H Q => ∃ e G ρ S, EnvR K G ρ e σ ∧ RS K G H ρ S ∧ Aft K (wE K W0 σ) G H ρ (m e S) (Want K Q)
def tT (K : W.Frag) (m : M Bool) : TT := fun σ H Q => ∃ e G ρ S, EnvR K G ρ e σ ∧ RS K G H ρ S ∧ Aft K (wE K W0 σ) G H ρ (m e S) (fun b _ _ H' _ => Q b H')
def tGo (K : W.Frag) (tg : Tg) (sl : List Nat) : TG := fun v σ H Q => ∃ d e e' G ρ S, RS K G H ρ S ∧ EnvR K G ρ e σ ∧ Rep K G ρ d v ∧ tg d e = some e' ∧ ∀ σ', EnvR K G ρ e' σ' → WipeOk sl σ σ' → Q σ' H
def PTsD (X : Cx) (Wx : WX) (ifs : List Expr) (m : M Bool) : Prop := ∃ t, PTs X ifs t ∧ SndT X.K Wx t m
section
variable {X : Cx} {Wx : WX} {K : W.Frag}
theorem snd_tE {m : M D} : SndE K W0 (tE K m) m := fun _ _ _ e G ρ S he rs q => ⟨e, G, ρ, S, he, rs, q⟩
theorem snd_tT {m : M Bool} : SndT K W0 (tT K m) m := fun _ _ _ e G ρ S he rs q => ⟨e, G, ρ, S, he, rs, q⟩
theorem snd_tGo {tg : Tg} {sl : List Nat} : SndG K (tGo K tg sl) tg sl := fun _ _ _ _ d e e' G ρ S rs he rd h k => ⟨d, e, e', G, ρ, S, rs, he, rd, h, k⟩
theorem PD.can {e : Expr} {m : M D} (h : PD X W0 e m) : PE X e (tE X.K m) := by
  obtain ⟨t, h1, h2⟩ := h
  exact ⟨fun pins s σ H Q I ⟨e, G, ρ, S, he, rs, q⟩ => h1.run pins s σ H Q I (h2 σ H Q e G ρ S he rs q)⟩
theorem PTsD.can {ifs : List Expr} {m : M Bool} (h : PTsD X W0 ifs m) : PTs X ifs (tT X.K m) := by
  obtain ⟨t, h1, h2⟩ := h
  exact ⟨fun pins s σ H Q I ⟨e, G, ρ, S, he, rs, q⟩ => h1.run pins s σ H Q I (h2 σ H Q e G ρ S he rs q)⟩
theorem PGD.can {tg : Expr} {g : Tg} {sl : List Nat} (h : PGD X tg g sl) : PG X tg (tGo X.K g sl) := by
  obtain ⟨t, h1, h2⟩ := h
  exact ⟨fun pins s σ H v u Q I rv ⟨d, e, e', G, ρ, S, rs, he, rd, hh, k⟩ => h1.run pins s σ H v u Q I rv (h2 v σ H Q d e e' G ρ S rs he rd hh k)⟩
def mYes : M Bool := fun _ S => .some (true, S)
theorem ptsd_nil : PTsD X Wx [] mYes := ⟨_, pts_nil, fun σ H Q e G ρ S he rs q => q G H ρ Go.refl rs⟩
theorem ptsd_one {c : Expr} {m : M Bool} (h : PB X Wx c m) : PTsD X Wx [c] m := by
  obtain ⟨t, h1, h2⟩ := h
  exact ⟨_, pts_one h1, h2⟩
end

/-! ### the new list, taken out of the heap -/
def era (H : Hp) (p : Addr) : Hp := fun a => if a = p then none else H a
theorem era_same {H : Hp} {p : Addr} : era H p p = none := if_pos rfl
theorem era_ne {H : Hp} {p a : Addr} (h : a ≠ p) : era H p a = H a := if_neg h
theorem upd_era {H : Hp} {p : Addr} {o : HO} (h : H p = some o) : upd (era H p) p o = H := by
  funext a
  by_cases e : a = p
  · rw [e, upd_same, h]
  · rw [upd_ne e, era_ne e]
theorem upd_era' {H : Hp} {p : Addr} {o : HO} : upd (era H p) p o = upd H p o := by
  funext a
  by_cases e : a = p
  · rw [e, upd_same, upd_same]
  · rw [upd_ne e, era_ne e, upd_ne e]
section
variable {K : W.Frag} {G G' H H' : Hp} {ρ ρ' : List Addr} {S : Store} {p : Addr} {o : HO}
theorem Go.era (g : Go G (upd H p o) ρ G' H' ρ') (h : H p = none) : Go G H ρ G' (MD.era H' p) ρ' where
  gr := g.gr
  pl := g.pl
  nw := fun a ha => by
    rcases g.nw a ha with q | q
    · exact .inl q
    · refine .inr ?_
      by_cases e : a = p
      · rw [e]; exact h
      · rw [upd_ne e] at q; exact q
  fr := fun a u e ha => by
    have ne := ne_of_none e h
    rw [era_ne ne]
    exact g.fr a u (by rw [upd_ne ne]; exact e) ha
  hid := fun a u e ha hg => g.hid a u (by rw [upd_ne (ne_of_none e h)]; exact e) ha hg
  tr := fun a e => by
    by_cases z : a = p
    · rw [z]; exact h
    · rw [era_ne z] at e
      have := g.tr a e
      rw [upd_ne z] at this
      exact this
  fz := fun a o' u e => by
    have ne := ne_of_none e h
    rw [era_ne ne]
    exact g.fz a o' u (by rw [upd_ne ne]; exact e)
theorem RS.era (rs : RS K G H ρ S) (hp : p ∉ ρ) (hg : G p = none) : RS K G (MD.era H p) ρ S where
  len := rs.len
  nd := rs.nd
  sub := fun a u e => by
    rw [era_ne (ne_of_none e hg)]
    exact rs.sub a u e
  out := rs.out
  obj := fun n u a h1 h2 => (rs.obj n u a h1 h2).mono (GLe.refl G) (PLe.refl ρ) (era_ne fun z => hp (by rw [← z]; exact List.mem_of_getElem? h2))
/-- what the list's owner knows of it -/
theorem Go.own_at (g : Go G (upd H p o) ρ G' H' ρ') (rs : RS K G H ρ S) (h : H p = none) : H' p = some o ∧ G' p = none ∧ p ∉ ρ' := by
  have h1 := rs.free h
  have h2 := rs.none_of h
  refine ⟨g.fr p o upd_same h1, g.hid p o upd_same h1 h2, fun hm => ?_⟩
  rcases g.nw p hm with q | q
  · exact h1 q
  · rw [upd_same] at q; cases q
end
theorem wipe_none {σ : L2.St} : ∀ {vs : List Nat} {j : Nat} {x : V}, j ∈ vs → (L2.wipe σ vs)[j]? ≠ some (some x) := fun {vs j x} h e => (wipe_some e).2 h
theorem wipe_wipe (σ : L2.St) (vs : List Nat) : L2.wipe (L2.wipe σ vs) vs = L2.wipe σ vs := by
  have key : ∀ (ws : List Nat) (τ : L2.St), (∀ i ∈ ws, ∀ x, τ[i]? ≠ some (some x)) → L2.wipe τ ws = τ := by
    intro ws
    induction ws with
    | nil => intro τ _; rfl
    | cons w ws ih =>
      intro τ h
      show (L2.wipe τ ws).set w none = τ
      rw [ih τ fun i hi => h i (List.mem_cons_of_mem _ hi)]
      apply List.ext_getElem?
      intro i
      by_cases e : w = i
      · subst e
        by_cases hl : w < τ.length
        · rw [List.getElem?_set_self hl]
          cases q : τ[w]? with
          | none => rw [List.getElem?_eq_getElem hl] at q; cases q
          | some y =>
            cases y with
            | none => rfl
            | some v => exact absurd q (h w List.mem_cons_self v)
        · rw [List.getElem?_eq_none (by rw [List.length_set]; omega), List.getElem?_eq_none (by omega)]
      · rw [List.getElem?_set_ne e]
  exact key vs _ fun i hi x => wipe_none hi

/-! ### the plain function; no exception comes out of a comprehension's block -/
def bndN {α β : Type} (r : Out (α × Store)) (f : α → Store → Out (β × Store)) : Out (β × Store) := match r with
  | .some (a, S) => f a S
  | _ => .none
def compEnd (r : Out (Bool × Store)) (me : Store → Out (D × Store)) (k : Store → Out (List D × Store)) : Out (List D × Store) :=
  bndN r fun b S1 => if b = true then bndN (me S1) fun x S2 => bndN (k S2) fun l S3 => .some (x :: l, S3) else k S1
def compL (tg : Tg) (mt : M Bool) (me : M D) (e0 : Env) : List D → Store → Out (List D × Store)
  | [], S => .some ([], S)
  | d :: ds, S => match tg d e0 with
    | none => .none
    | some e1 => compEnd (mt e1 S) (me e1) (compL tg mt me e0 ds)
def compD (f : Nat → Store → Option (Option D)) (tg : Tg) (mt : M Bool) (me : M D) (e0 : Env) : Nat → Nat → Store → Out (List D × Store)
  | 0, _, _ => .none
  | n + 1, i, S => match f i S with
    | none => .none
    | some none => .some ([], S)
    | some (some d) => match tg d e0 with
      | none => .none
      | some e1 => compEnd (mt e1 S) (me e1) (compD f tg mt me e0 n (i + 1))
def fits (l : List D) (S : Store) : Out (List D × Store) := if l.length ≤ sizeLine then .some (l, S) else .none
def mLc (n : Nat) (vs : List Nat) (mi : M Src) (tg : Tg) (mt : M Bool) (me : M D) : M (List D) := fun e S => bnd (mi e S) fun src S1 =>
  bnd (match src with
    | .fix ds => compL tg mt me (wipeE e vs) ds S1
    | .dyn f => compD f tg mt me (wipeE e vs) n 0 S1) fits

/-! ### soundness -/
/-- how it stands between the turns: the list so far lies at p, ahead of the items that r gives -/
def CompAt (K : W.Frag) (w : XW) (G1 H1 : Hp) (ρ1 : List Addr) (e0 : Env) (τ : L2.St) (p : Addr) (Qf : List D → Store → Hp → Hp → List Addr → Prop) (r : Store → Out (List D × Store)) (H : Hp) : Prop :=
  ∃ G ρ S acc ws Hd, Hd p = none ∧ H = upd Hd p (.lst ws) ∧ Reps K G ρ acc ws ∧ RS K G Hd ρ S ∧ Go G1 H1 ρ1 G Hd ρ ∧ EnvR K G ρ e0 τ ∧ Aft K w G Hd ρ (bnd (r S) fun l => fits (acc ++ l)) Qf
theorem comp_turn {K : W.Frag} {w : XW} {G1 H1 : Hp} {ρ1 : List Addr} {e0 : Env} {σ : L2.St} {vs sl : List Nat} {p : Addr} {Qf : List D → Store → Hp → Hp → List Addr → Prop} {cont : Store → Out (List D × Store)}
    {g : TG} {tt : TT} {te : TE} {tg : Tg} {mt : M Bool} {me : M D} (hg : SndG K g tg sl) (ht : SndT K W0 tt mt) (he : SndE K W0 te me) (hsl : ∀ i ∈ sl, i ∈ vs)
    {G Hd H' G' : Hp} {ρ : List Addr} {S : Store} {acc : List D} {ws : List V} {d : D} {x : V} (hp : Hd p = none) (ra : Reps K G ρ acc ws) (rs : RS K G Hd ρ S) (gl : Go G1 H1 ρ1 G Hd ρ) (en : EnvR K G ρ e0 (L2.wipe σ vs))
    (q : Aft K w G Hd ρ (bnd (match tg d e0 with
      | none => .none
      | some e1 => compEnd (mt e1 S) (me e1) cont) fun l => fits (acc ++ l)) Qf)
    (gy : Go G (upd Hd p (.lst ws)) ρ G' H' ρ) (rs' : RS K G' H' ρ S) (rd : Rep K G' ρ d x) :
    g x (L2.wipe σ vs) H' fun σ2 H2 => L2.wipe σ2 vs = L2.wipe σ vs ∧ tt σ2 H2 fun b H3 =>
      if b = true then te σ2 H3 fun y H4 => ∃ acc, H4 p = some (.lst acc) ∧ acc.length < sizeLine ∧ CompAt K w G1 H1 ρ1 e0 (L2.wipe σ vs) p Qf cont (upd H4 p (.lst (acc ++ [y])))
      else CompAt K w G1 H1 ρ1 e0 (L2.wipe σ vs) p Qf cont H3 := by
  cases z : tg d e0 with
  | none => rw [z] at q; exact q.elim
  | some e1 =>
    rw [z] at q
    dsimp only at q
    refine hg x _ H' _ d e0 e1 G' ρ S rs' (en.mono gy.gr gy.pl) rd z fun σ2 he2 wo => ⟨(wo vs hsl).trans (wipe_wipe σ vs), ?_⟩
    refine ht σ2 H' _ e1 G' ρ S he2 rs' ?_
    cases z2 : mt e1 S with
    | none => rw [z2] at q; exact q.elim
    | err xx SS => rw [z2] at q; exact q.elim
    | some r2 =>
      obtain ⟨b, S3⟩ := r2
      rw [z2] at q
      intro G3 H3 ρ3 g3 rs3
      have g03 := gy.trans g3
      obtain ⟨o1, o2, o3⟩ := g03.own_at rs hp
      have q3 := Aft.shift q (g03.era hp)
      cases b with
      | false =>
        exact ⟨G3, ρ3, S3, acc, ws, era H3 p, era_same, (upd_era o1).symm, Reps.mono g03.gr g03.pl _ _ ra, rs3.era o3 o2, gl.trans (g03.era hp), en.mono g03.gr g03.pl, q3⟩
      | true =>
        have q3 : Aft K w G3 (era H3 p) ρ3 (bnd (bndN (me e1 S3) fun x S2 => bndN (cont S2) fun l S3 => .some (x :: l, S3)) fun l => fits (acc ++ l)) Qf := q3
        refine he σ2 H3 _ e1 G3 ρ3 S3 (he2.mono g3.gr g3.pl) rs3 ?_
        cases z3 : me e1 S3 with
        | none => rw [z3] at q3; exact q3.elim
        | err xx SS => rw [z3] at q3; exact q3.elim
        | some r3 =>
          obtain ⟨y, S4⟩ := r3
          rw [z3] at q3
          intro G4 H4 ρ4 g4 rs4 v rv
          have g04 := g03.trans g4
          obtain ⟨p1, p2, p3⟩ := g04.own_at rs hp
          have g34 : Go G3 (era H3 p) ρ3 G4 (era H4 p) ρ4 := Go.era (o := .lst ws) (by rw [upd_era o1]; exact g4) era_same
          have q4 : Aft K w G4 (era H4 p) ρ4 (bnd (bndN (cont S4) fun l S3 => .some (y :: l, S3)) fun l => fits (acc ++ l)) Qf := Aft.shift q3 g34
          have q5 : Aft K w G4 (era H4 p) ρ4 (bnd (cont S4) fun l => fits (acc ++ y :: l)) Qf := by
            cases z4 : cont S4 with
            | none => rw [z4] at q4; exact q4
            | err xx SS => rw [z4] at q4; exact q4.elim
            | some r4 => rw [z4] at q4; exact q4
          have hlen : ws.length < sizeLine := by
            cases z4 : cont S4 with
            | none => rw [z4] at q4; exact q4.elim
            | err xx SS => rw [z4] at q4; exact q4.elim
            | some r4 =>
              obtain ⟨l, S5⟩ := r4
              rw [z4] at q5
              have h0 : Aft K w G4 (era H4 p) ρ4 (if (acc ++ y :: l).length ≤ sizeLine then .some (acc ++ y :: l, S5) else .none) Qf := q5
              split at h0
              · rename_i hle
                rw [List.length_append, List.length_cons] at hle
                rw [← ra.length]
                omega
              · exact h0.elim
          refine ⟨ws, p1, hlen, G4, ρ4, S4, acc ++ [y], ws ++ [v], era H4 p, era_same, upd_era'.symm, (Reps.mono g04.gr g04.pl _ _ ra).append (Reps.one rv), rs4.era p3 p2, gl.trans (g04.era hp), en.mono g04.gr g04.pl, ?_⟩
          have e : (fun l => fits (acc ++ [y] ++ l)) = fun l => fits (acc ++ y :: l) := by
            funext l
            rw [List.append_assoc]
            rfl
          rw [e]
          exact q5
theorem sndL_lc {K : W.Frag} {Wx : WX} {wi : TI} {g : TG} {tt : TT} {te : TE} {mi : M Src} {tg : Tg} {sl vs : List Nat} {mt : M Bool} {me : M D} (n : Nat) (hi : SndI K Wx wi mi) (hg : SndG K g tg sl) (ht : SndT K W0 tt mt) (he : SndE K W0 te me) (hsl : ∀ i ∈ sl, i ∈ vs) :
    SndL K Wx (tLc wi g tt te vs) (mLc n vs mi tg mt me) := by
  intro σ H Q e G ρ S hen rs q
  refine hi σ H _ e G ρ S hen rs (Aft.imp (Aft.bind q) fun src S1 G1 H1 ρ1 g1 rs1 k J gv p hp => ?_)
  have en1 : EnvR K G1 ρ1 (wipeE e vs) (L2.wipe σ vs) := (hen.mono g1.gr g1.pl).wipe vs
  -- the end
  have fin : ∀ {acc : List D} {ws : List V} {G2 Hd : Hp} {ρ2 : List Addr} {S2 : Store} {Qf : List D → Store → Hp → Hp → List Addr → Prop}, RS K G2 Hd ρ2 S2 → Aft K (wE K Wx σ) G2 Hd ρ2 (bnd (.some (([] : List D), S2)) fun l => fits (acc ++ l)) Qf → Qf acc S2 G2 Hd ρ2 := by
    intro acc ws G2 Hd ρ2 S2 Qf rs2 k2
    have k2 : Aft K (wE K Wx σ) G2 Hd ρ2 (if (acc ++ []).length ≤ sizeLine then .some (acc ++ [], S2) else .none) Qf := k2
    split at k2
    · have := k2 G2 Hd ρ2 Go.refl rs2
      rw [List.append_nil] at this
      exact this
    · exact k2.elim
  cases src with
  | fix ds =>
    refine ⟨fun i m H => i ≤ ds.length ∧ m = ds.length - i ∧ CompAt K (wE K Wx σ) G1 H1 ρ1 (wipeE e vs) (L2.wipe σ vs) p _ (compL tg mt me (wipeE e vs) (ds.drop i)) H,
      ⟨ds.length, Nat.zero_le _, rfl, G1, ρ1, S1, [], [], H1, hp, rfl, rfl, rs1, Go.refl, en1, k⟩, ?_⟩
    rintro i m H2 ⟨hi2, hm, G2, ρ2, S2, acc, ws, Hd, hpd, rfl, ra, rs2, gl2, en2, k2⟩
    have rs2' := rs2.hide hpd (.lst ws)
    have gl2' := gl2.trans (Go.hide (G := G2) (ρ := ρ2) hpd (.lst ws))
    by_cases hlt : i < ds.length
    · have hnow : (Src.fix ds).now i S2 = some (some ds[i]) := by
        show (if ds.length < i then none else some ds[i]?) = _
        rw [if_neg (by omega), List.getElem?_eq_getElem hlt]
      refine .inr ⟨gv.goes i _ G2 _ ρ2 S2 hnow rs2' gl2', _, fun H' h => ⟨ds.length - (i + 1), by omega, hlt, rfl, h⟩, fun x H3 hy => ?_⟩
      obtain ⟨G3, g3, rs3, rd⟩ := gv.yields i _ G2 _ ρ2 S2 x H3 hnow rs2' gl2' hy
      rw [List.drop_eq_getElem_cons hlt] at k2
      exact comp_turn hg ht he hsl hpd ra rs2 gl2 en2 k2 g3 rs3 rd
    · have hi3 : i = ds.length := by omega
      subst hi3
      rw [List.drop_length] at k2
      refine .inl ⟨gv.stops _ G2 _ ρ2 S2 ?_ rs2' gl2', fin (ws := ws) rs2 k2 p ws hpd ra⟩
      show (if ds.length < ds.length then none else some ds[ds.length]?) = _
      rw [if_neg (Nat.lt_irrefl _), List.getElem?_eq_none (Nat.le_refl _)]
  | dyn f =>
    refine ⟨fun i m H => CompAt K (wE K Wx σ) G1 H1 ρ1 (wipeE e vs) (L2.wipe σ vs) p _ (compD f tg mt me (wipeE e vs) m i) H,
      ⟨n, G1, ρ1, S1, [], [], H1, hp, rfl, rfl, rs1, Go.refl, en1, k⟩, ?_⟩
    rintro i m H2 ⟨G2, ρ2, S2, acc, ws, Hd, hpd, rfl, ra, rs2, gl2, en2, k2⟩
    have rs2' := rs2.hide hpd (.lst ws)
    have gl2' := gl2.trans (Go.hide (G := G2) (ρ := ρ2) hpd (.lst ws))
    cases m with
    | zero => exact k2.elim
    | succ m =>
      have k2 : Aft K _ G2 Hd ρ2 (bnd (match f i S2 with
        | none => .none
        | some none => .some ([], S2)
        | some (some d) => match tg d (wipeE e vs) with
          | none => .none
          | some e1 => compEnd (mt e1 S2) (me e1) (compD f tg mt me (wipeE e vs) m (i + 1))) fun l => fits (acc ++ l)) _ := k2
      cases zf : f i S2 with
      | none => rw [zf] at k2; exact k2.elim
      | some o =>
        rw [zf] at k2
        cases o with
        | none => exact .inl ⟨gv.stops i G2 _ ρ2 S2 zf rs2' gl2', fin (ws := ws) rs2 k2 p ws hpd ra⟩
        | some d =>
          dsimp only at k2
          refine .inr ⟨gv.goes i d G2 _ ρ2 S2 zf rs2' gl2', _, fun H' h => ⟨m, Nat.lt_succ_self m, h⟩, fun x H3 hy => ?_⟩
          obtain ⟨G3, g3, rs3, rd⟩ := gv.yields i d G2 _ ρ2 S2 x H3 zf rs2' gl2' hy
          exact comp_turn hg ht he hsl hpd ra rs2 gl2 en2 k2 g3 rs3 rd

section
variable {X : Cx} {Wx : WX}
/-- [elt for target in iter if ..] -/
theorem pl_lc {elt tg iter : Expr} {ifs : List Expr} {scope : Scope} {own : List (Str × Nat)} {pos : Pos} {mi : M Src} {g : Tg} {sl : List Nat} {mt : M Bool} {me : M D} (n : Nat) (hc : X.calm = true) (hN : X.N.Nodup) (hi : PID X Wx tg iter mi) (ok : BlkOk X.N X.env.scope scope own)
    (hg : ∀ (s : Shared) (H : Hp) (C : Addr) (cl : List (Str × Addr)) (fp : List Addr), PGD (X.blk s H scope (compEnvC scope cl C X.env) fp) tg g sl)
    (ht : ∀ (s : Shared) (H : Hp) (C : Addr) (cl : List (Str × Addr)) (fp : List Addr), PTsD (X.blk s H scope (compEnvC scope cl C X.env) fp) W0 ifs mt)
    (he : ∀ (s : Shared) (H : Hp) (C : Addr) (cl : List (Str × Addr)) (fp : List Addr), PD (X.blk s H scope (compEnvC scope cl C X.env) fp) W0 elt me)
    (hsl : ∀ i ∈ sl, i ∈ own.map (·.2) := by decide) (hs : ∀ x, foldedSetIterable iter X.env x = pure x := by intro _; rfl) : PL X Wx (.ListComp elt [⟨tg, iter, ifs, 0⟩] scope pos) (mLc n (own.map (·.2)) mi g mt me) := by
  obtain ⟨wi, h1, h2⟩ := hi
  exact ⟨_, pe_lc (g := tGo X.K g sl) (tt := tT X.K mt) (te := tE X.K me) hc hN h1 ok (fun s H C cl fp => (hg s H C cl fp).can) (fun s H C cl fp => (ht s H C cl fp).can) (fun s H C cl fp => (he s H C cl fp).can) hs, sndL_lc n h2 snd_tGo snd_tT snd_tE hsl⟩
/-- name = [..] on one line: the new list is the name's -/
theorem psd_setLc (i : Nat) {y : Str} {py : Pos} {elt tg iter : Expr} {ifs : List Expr} {scope : Scope} {own : List (Str × Nat)} {pos spos : Pos} {mi : M Src} {g : Tg} {sl : List Nat} {mt : M Bool} {me : M D} (n : Nat) (b : Bool) (hc : X.calm = true) (hN : X.N.Nodup) (hi : PID X Wx tg iter mi) (ok : BlkOk X.N X.env.scope scope own)
    (hg : ∀ (s : Shared) (H : Hp) (C : Addr) (cl : List (Str × Addr)) (fp : List Addr), PGD (X.blk s H scope (compEnvC scope cl C X.env) fp) tg g sl)
    (ht : ∀ (s : Shared) (H : Hp) (C : Addr) (cl : List (Str × Addr)) (fp : List Addr), PTsD (X.blk s H scope (compEnvC scope cl C X.env) fp) W0 ifs mt)
    (he : ∀ (s : Shared) (H : Hp) (C : Addr) (cl : List (Str × Addr)) (fp : List Addr), PD (X.blk s H scope (compEnvC scope cl C X.env) fp) W0 elt me)
    (hsw : swapsWith (.ListComp elt [⟨tg, iter, ifs, 0⟩] scope pos) (some (.Name y py)) spos.line X.env = pure true := by rfl) (hy : X.N[i]? = some y := by rfl) (hyl : X.env.scope.names.lookup y = some .local := by rfl)
    (hsl : ∀ i ∈ sl, i ∈ own.map (·.2) := by decide) (hs : ∀ x, foldedSetIterable iter X.env x = pure x := by intro _; rfl) :
    PSD X Wx (.Assign [.Name y py] (.ListComp elt [⟨tg, iter, ifs, 0⟩] scope pos) spos) (msAsg (match b with
      | true => mNew (mLc n (own.map (·.2)) mi g mt me)
      | false => mFrz (mLc n (own.map (·.2)) mi g mt me)) (tgName i)) := by
  obtain ⟨wi, h1, h2⟩ := hi
  have hL : SndL X.K Wx (tLc wi (tGo X.K g sl) (tT X.K mt) (tE X.K me) (own.map (·.2))) (mLc n (own.map (·.2)) mi g mt me) := sndL_lc n h2 snd_tGo snd_tT snd_tE hsl
  refine ⟨_, ps_setLc (g := tGo X.K g sl) (tt := tT X.K mt) (te := tE X.K me) hc hN hy hyl hsw h1 ok (fun s H C cl fp => (hg s H C cl fp).can) (fun s H C cl fp => (ht s H C cl fp).can) (fun s H C cl fp => (he s H C cl fp).can) hs, ?_⟩
  cases b with
  | true => exact sndS_asg (snd_new hL) (sndG_name i)
  | false => exact sndS_asg (snd_frz hL) (sndG_name i)
end
end MD
set_option Elab.async false
set_option linter.all false
set_option maxRecDepth 100000
set_option maxHeartbeats 1000000
/-! methods of lists and dicts, stores at subscripts, dict displays, loops over dicts -/
namespace MD
open PySem PySem.Spec PyProof.Rows L2

/-! ### methods of built-in types -/
def MtS (K : W.Frag) (r : V → List V → Hp → VK → Prop) (g : Store → D → List D → Out (D × Store)) : Prop := ∀ (w : XW) (G H : Hp) (ρ : List Addr) (S : Store) (x : D) (v : V) (xs : List D) (vs : List V) (Q : VK), RS K G H ρ S → Rep K G ρ x v → Reps K G ρ xs vs → Aft K w G H ρ (g S x xs) (Want K Q) → r v vs H Q
def tyOk (T : String) (S : Store) (x : D) : Bool := decide (tyName S x = some T) && (T == "list" || T == "dict" || T == "str")
theorem tyOk_rep {K : W.Frag} {G H : Hp} {ρ : List Addr} {S : Store} {x : D} {v : V} {T : String} (rs : RS K G H ρ S) (rx : Rep K G ρ x v) (h : tyOk T S x = true) : tyV K T v H := by
  unfold tyOk at h
  rw [Bool.and_eq_true] at h
  obtain ⟨h1, h2⟩ := h
  have h1 : tyName S x = some T := of_decide_eq_true h1
  cases x with
  | str s =>
    have rx : v = .str s := rx
    have e : "str" = T := Option.some.inj h1
    rw [rx]
    exact e.symm
  | lst l =>
    obtain ⟨a, vs, e, q, _⟩ := rx
    have e2 : "list" = T := Option.some.inj h1
    rw [e]
    exact .inl ⟨e2.symm, vs, SqL.of (rs.sub _ _ q)⟩
  | scr l =>
    obtain ⟨a, vs, e, q, _⟩ := rx
    have e2 : "list" = T := Option.some.inj h1
    rw [e]
    exact .inl ⟨e2.symm, vs, rs.sub.sql q⟩
  | ref n =>
    obtain ⟨a, e, q⟩ := rx
    cases z : S[n]? with
    | none => simp [tyName, z] at h1
    | some o =>
      cases o with
      | lst l =>
        have e2 : "list" = T := by simpa [tyName, z] using h1
        obtain ⟨vs, q2, _⟩ := rs.obj n _ a z q
        rw [e]
        exact .inl ⟨e2.symm, vs, SqL.of q2⟩
      | dic l =>
        have e2 : "dict" = T := by simpa [tyName, z] using h1
        obtain ⟨vs, q2, _⟩ := rs.obj n _ a z q
        rw [e]
        exact .inr (.inr (.inl ⟨e2.symm, .inl ⟨vs, q2⟩⟩))
      | dlk l => simp [tyName, z] at h1
  | non => have e : "NoneType" = T := Option.some.inj h1; subst e; exact absurd h2 (by decide)
  | bl b => have e : "bool" = T := Option.some.inj h1; subst e; exact absurd h2 (by decide)
  | int i => have e : "int" = T := Option.some.inj h1; subst e; exact absurd h2 (by decide)
  | tup l => have e : "tuple" = T := Option.some.inj h1; subst e; exact absurd h2 (by decide)
  | ty n => cases h1
  | adr n => cases h1
def mMt (T : String) (g : Store → D → List D → Out (D × Store)) (ma : M D) (mt : M (List D)) : M D := fun e S => bnd (ma e S) fun x S1 => if tyOk T S1 x = true then bnd (mt e S1) fun xs S2 => g S2 x xs else .none
theorem snd_mt {K : W.Frag} {Wx : WX} {T : String} {r : V → List V → Hp → VK → Prop} {g : Store → D → List D → Out (D × Store)} {to : TE} {t : TA} {ma : M D} {mt : M (List D)} (o : MtS K r g) (ho : SndE K Wx to ma) (ht : SndA K Wx t mt) : SndE K Wx (tBM K T r to t) (mMt T g ma mt) := by
  intro σ H Q e G ρ S he rs q
  refine ho σ H _ e G ρ S he rs (Aft.imp (Aft.bind q) fun x S1 G1 H1 ρ1 g1 rs1 k v rv => ?_)
  split at k
  · rename_i hty
    refine ⟨tyOk_rep rs1 rv hty, ht σ H1 _ e G1 ρ1 S1 (he.mono g1.gr g1.pl) rs1 (Aft.imp (Aft.bind k) fun xs S2 G2 H2 ρ2 g2 rs2 k2 vs rvs => ?_)⟩
    exact o _ G2 H2 ρ2 S2 x v xs vs Q rs2 (Rep.mono g2.gr g2.pl _ _ rv) rvs k2
  · exact k.elim
theorem snd_mt0 {K : W.Frag} {Wx : WX} {T : String} {r : V → List V → Hp → VK → Prop} {g : Store → D → List D → Out (D × Store)} {to : TE} {ma : M D} (o : MtS K r g) (ho : SndE K Wx to ma) : SndE K Wx (tBM0 K T r to) (mMt T g ma fun _ S => .some ([], S)) := by
  intro σ H Q e G ρ S he rs q
  refine ho σ H _ e G ρ S he rs (Aft.imp (Aft.bind q) fun x S1 G1 H1 ρ1 g1 rs1 k v rv => ?_)
  split at k
  · rename_i hty
    exact ⟨tyOk_rep rs1 rv hty, o _ G1 H1 ρ1 S1 x v [] [] Q rs1 rv rfl k⟩
  · exact k.elim
section
variable {X : Cx} {Wx : WX} {o e : Expr} {es : List Expr} {name : Str} {apos cpos : Pos} {T id : String} {r : V → List V → Hp → VK → Prop} {g : Store → D → List D → Out (D × Store)} {ma : M D} {mt : M (List D)}
theorem pd_mt (pa : PlainAttrs T) (slot : Slot T name id) (hty : typeOf (.builtin id) = pure (.type "method_descriptor")) (hm : MtR X id r) (os : MtS X.K r g) (ho : PD X Wx o ma) (ha : PAs X Wx (e :: es) mt)
    (hbase : attributeBase o name X.env (eval o X.env) = eval o X.env := by rfl)
    (hfew : ((backTo cpos (starEach (e :: es) X.env)).all (fun x => !x.1) && (backToKw cpos (keywordEach [] X.env)).all (fun x => x.1.isSome)
      && decide ((e :: es).length + ([] : List Keyword).length + (if ([] : List Keyword).isEmpty then 0 else 1) < 30)) = true := by rfl)
    (hline : (apos.endLine == cpos.line) = true := by rfl) (hs : starEach (e :: es) X.env = (false, eval e X.env) :: starEach es X.env := by rfl) (hplain : (backTo cpos (starEach es X.env)).any (·.1) = false := by rfl) :
    PD X Wx (.Call (.Attribute o name apos) (e :: es) [] cpos) (mMt T g ma mt) := by
  obtain ⟨t, h1, h2⟩ := ho
  obtain ⟨u, h3, h4⟩ := ha
  exact ⟨_, pe_bm pa slot hty hm h1 h3 hbase hfew hline hs hplain, snd_mt os h2 h4⟩
theorem pd_mt0 (pa : PlainAttrs T) (slot : Slot T name id) (hty : typeOf (.builtin id) = pure (.type "method_descriptor")) (hm : MtR X id r) (os : MtS X.K r g) (ho : PD X Wx o ma)
    (hbase : attributeBase o name X.env (eval o X.env) = eval o X.env := by rfl) (hline : (apos.endLine == cpos.line) = true := by rfl) :
    PD X Wx (.Call (.Attribute o name apos) [] [] cpos) (mMt T g ma fun _ S => .some ([], S)) := by
  obtain ⟨t, h1, h2⟩ := ho
  exact ⟨_, pe_bm0 pa slot hty hm h1 hbase hline, snd_mt0 os h2⟩
end
/-- the list that an owned object is -/
def ownL (S : Store) : D → Option (Nat × List D)
  | .ref n => (match S[n]? with
    | some (.lst l) => some (n, l)
    | _ => none)
  | _ => none
theorem ownL_rep {K : W.Frag} {G H : Hp} {ρ : List Addr} {S : Store} {x : D} {v : V} {n : Nat} {l : List D} (rs : RS K G H ρ S) (rx : Rep K G ρ x v) (h : ownL S x = some (n, l)) :
    ∃ a vs, v = .ref a ∧ ρ[n]? = some a ∧ H a = some (.lst vs) ∧ Reps K G ρ l vs := by
  unfold ownL at h
  split at h
  · rename_i m
    split at h
    · rename_i l0 hm
      injection h with h
      injection h with h1 h2
      subst h1 h2
      obtain ⟨a, e, q⟩ := rx
      obtain ⟨vs, q1, q2⟩ := rs.obj m _ a hm q
      exact ⟨a, vs, e, q, q1, q2⟩
    · cases h
  · cases h
/-- an owned list written -/
theorem putL {K : W.Frag} {G H : Hp} {ρ : List Addr} {S : Store} {n : Nat} {a : Addr} {l : List D} {vs ws : List V} (rs : RS K G H ρ S) (hn : ρ[n]? = some a) (ha : H a = some (.lst ws)) (hl : Reps K G ρ l vs) : Go G H ρ G (upd H a (.lst vs)) ρ ∧ RS K G (upd H a (.lst vs)) ρ (S.set n (.lst l)) :=
  ⟨Go.put (List.mem_of_getElem? hn) (fun o u e => by rw [ha] at e; cases e) _, rs.put hn (o := .lst l) ⟨vs, upd_same, hl⟩⟩
def gAppend : Store → D → List D → Out (D × Store) := fun S x xs => match ownL S x, xs with
  | some (n, l), [y] => if l.length < sizeLine then .some (.non, S.set n (.lst (l ++ [y]))) else .none
  | _, _ => .none
theorem mts_append {K : W.Frag} : MtS K rAppend gAppend := by
  intro w G H ρ S x v xs vs Q rs rx rxs q
  unfold gAppend at q
  split at q
  · rename_i n l y ho
    split at q
    · rename_i hz
      obtain ⟨a, ws, ev, hn, ha, hl⟩ := ownL_rep rs rx ho
      obtain ⟨w, evs, rw'⟩ := rxs.one_of
      obtain ⟨g2, rs2⟩ := putL rs hn ha (hl.append (Reps.one rw'))
      exact ⟨a, ws, w, ev, evs, ha, by rw [← hl.length]; exact hz, q G _ ρ g2 rs2 .non rfl⟩
    · exact q.elim
  · exact q.elim
def gPop : Store → D → List D → Out (D × Store) := fun S x xs => match ownL S x, xs with
  | some (n, l), [] => (match l[l.length - 1]? with
    | some y => .some (y, S.set n (.lst l.dropLast))
    | none => .none)
  | _, _ => .none
theorem Reps.dropLast {K : W.Frag} {G : Hp} {ρ : List Addr} : ∀ {l : List D} {vs : List V}, Reps K G ρ l vs → Reps K G ρ l.dropLast vs.dropLast := fun {l vs} h => by
  rw [List.dropLast_eq_take, List.dropLast_eq_take, ← h.length]
  exact h.take _
theorem mts_pop {K : W.Frag} : MtS K rPop gPop := by
  intro w G H ρ S x v xs vs Q rs rx rxs q
  unfold gPop at q
  split at q
  · rename_i n l ho
    split at q
    · rename_i y hy
      obtain ⟨a, ws, ev, hn, ha, hl⟩ := ownL_rep rs rx ho
      obtain ⟨w, hw, rw'⟩ := hl.get hy
      obtain ⟨g2, rs2⟩ := putL rs hn ha hl.dropLast
      have evs : vs = [] := rxs
      exact ⟨a, ws, w, ev, evs, ha, by rw [← hl.length]; exact hw, q G _ ρ g2 rs2 w rw'⟩
    · exact q.elim
  · exact q.elim
def fitJ (i : Int) : Bool := decide (-(2 ^ 63) ≤ i) && decide (i < 2 ^ 63)
def gPopAt : Store → D → List D → Out (D × Store) := fun S x xs => match ownL S x, xs with
  | some (n, l), [.int i] => if fitJ i then (match seqIndex? i l.length with
    | some k => (match l[k]? with
      | some y => .some (y, S.set n (.lst (l.eraseIdx k)))
      | none => .none)
    | none => .none) else .none
  | _, _ => .none
theorem Reps.eraseIdx {K : W.Frag} {G : Hp} {ρ : List Addr} : ∀ {l : List D} {vs : List V} (k : Nat), Reps K G ρ l vs → Reps K G ρ (l.eraseIdx k) (vs.eraseIdx k)
  | [], vs, k, h => by
    have h : vs = [] := h
    rw [h]
    exact rfl
  | d :: l, vs, 0, h => by
    obtain ⟨v, r, e, h1, h2⟩ := h
    rw [e]
    exact h2
  | d :: l, vs, k + 1, h => by
    obtain ⟨v, r, e, h1, h2⟩ := h
    rw [e]
    exact ⟨v, r.eraseIdx k, rfl, h1, Reps.eraseIdx k h2⟩
theorem mts_popAt {K : W.Frag} : MtS K rPopAt gPopAt := by
  intro w G H ρ S x v xs vs Q rs rx rxs q
  unfold gPopAt at q
  split at q
  · rename_i n l i ho
    split at q
    · rename_i hf
      unfold fitJ at hf
      rw [Bool.and_eq_true] at hf
      split at q
      · rename_i k hk
        split at q
        · rename_i y hy
          obtain ⟨a, ws, ev, hn, ha, hl⟩ := ownL_rep rs rx ho
          obtain ⟨w, hw, rw'⟩ := hl.get hy
          obtain ⟨g2, rs2⟩ := putL rs hn ha (hl.eraseIdx k)
          obtain ⟨u, evs, ru⟩ := rxs.one_of
          have ru : u = .int i := ru
          rw [ru] at evs
          exact ⟨a, ws, i, k, w, ev, evs, ha, of_decide_eq_true hf.1, of_decide_eq_true hf.2, by rw [← hl.length]; exact hk, hw, q G _ ρ g2 rs2 w rw'⟩
        · exact q.elim
      · exact q.elim
    · exact q.elim
  · exact q.elim
section
variable {X : Cx} {Wx : WX} {o e : Expr} {apos cpos : Pos} {ma : M D} {mt : M (List D)}
theorem pd_append (ho : PD X Wx o ma) (ha : PAs X Wx [e] mt)
    (hbase : attributeBase o "append" X.env (eval o X.env) = eval o X.env := by rfl)
    (hfew : ((backTo cpos (starEach [e] X.env)).all (fun x => !x.1) && (backToKw cpos (keywordEach [] X.env)).all (fun x => x.1.isSome)
      && decide ([e].length + ([] : List Keyword).length + (if ([] : List Keyword).isEmpty then 0 else 1) < 30)) = true := by rfl)
    (hline : (apos.endLine == cpos.line) = true := by rfl) (hs : starEach [e] X.env = (false, eval e X.env) :: starEach [] X.env := by rfl) (hplain : (backTo cpos (starEach [] X.env)).any (·.1) = false := by rfl) :
    PD X Wx (.Call (.Attribute o "append" apos) [e] [] cpos) (mMt "list" gAppend ma mt) := pd_mt PySem.F.plainAttrs_list PySem.F.slot_list_append PySem.F.type_list_append mt_append mts_append ho ha hbase hfew hline hs hplain
theorem pd_pop (ho : PD X Wx o ma) (hbase : attributeBase o "pop" X.env (eval o X.env) = eval o X.env := by rfl) (hline : (apos.endLine == cpos.line) = true := by rfl) :
    PD X Wx (.Call (.Attribute o "pop" apos) [] [] cpos) (mMt "list" gPop ma fun _ S => .some ([], S)) := pd_mt0 PySem.F.plainAttrs_list PySem.F.slot_list_pop PySem.F.type_list_pop mt_pop mts_pop ho hbase hline
theorem pd_popAt (ho : PD X Wx o ma) (ha : PAs X Wx [e] mt)
    (hbase : attributeBase o "pop" X.env (eval o X.env) = eval o X.env := by rfl)
    (hfew : ((backTo cpos (starEach [e] X.env)).all (fun x => !x.1) && (backToKw cpos (keywordEach [] X.env)).all (fun x => x.1.isSome)
      && decide ([e].length + ([] : List Keyword).length + (if ([] : List Keyword).isEmpty then 0 else 1) < 30)) = true := by rfl)
    (hline : (apos.endLine == cpos.line) = true := by rfl) (hs : starEach [e] X.env = (false, eval e X.env) :: starEach [] X.env := by rfl) (hplain : (backTo cpos (starEach [] X.env)).any (·.1) = false := by rfl) :
    PD X Wx (.Call (.Attribute o "pop" apos) [e] [] cpos) (mMt "list" gPopAt ma mt) := pd_mt PySem.F.plainAttrs_list PySem.F.slot_list_pop PySem.F.type_list_pop mt_popAt mts_popAt ho ha hbase hfew hline hs hplain
end

/-! ### dicts -/
def putD (l : List (Key × D)) (k : Key) (d : D) : List (Key × D) := if (l.any fun p => decide (p.1 = k)) = true then l.map (fun p => if p.1 = k then (p.1, d) else p) else l ++ [(k, d)]
def mergeD (l more : List (Key × D)) : List (Key × D) := more.foldl (fun acc p => putD acc p.1 p.2) l
section
variable {K : W.Frag} {G H : Hp} {ρ : List Addr} {S : Store}
theorem KRep.length {l : List (Key × D)} {m : List (Key × V)} (h : KRep K G ρ l m) : l.length = m.length := Paired.length h
theorem KRep.any {l : List (Key × D)} {m : List (Key × V)} (h : KRep K G ρ l m) (k : Key) : (l.any fun p => decide (p.1 = k)) = m.any fun p => decide (p.1 = k) := by
  induction h with
  | nil => rfl
  | cons hp t ih => rw [List.any_cons, List.any_cons, ih, hp.1]
theorem KRep.snoc {l : List (Key × D)} {m : List (Key × V)} (h : KRep K G ρ l m) {k : Key} {d : D} {v : V} (r : Rep K G ρ d v) : KRep K G ρ (l ++ [(k, d)]) (m ++ [(k, v)]) := by
  induction h with
  | nil => exact .cons ⟨rfl, r⟩ .nil
  | cons hp t ih => exact .cons hp ih
theorem KRep.repl {l : List (Key × D)} {m : List (Key × V)} (h : KRep K G ρ l m) {k : Key} {d : D} {v : V} (r : Rep K G ρ d v) : KRep K G ρ (l.map fun p => if p.1 = k then (p.1, d) else p) (m.map fun p => if p.1 = k then (p.1, v) else p) := by
  induction h with
  | nil => exact .nil
  | @cons p q l m hp t ih =>
    rw [List.map_cons, List.map_cons]
    refine .cons ?_ ih
    by_cases e : p.1 = k
    · rw [if_pos e, if_pos (hp.1.symm.trans e)]
      exact ⟨hp.1, r⟩
    · rw [if_neg e, if_neg fun z => e (hp.1.trans z)]
      exact hp
theorem KRep.put {l : List (Key × D)} {m : List (Key × V)} (h : KRep K G ρ l m) {k : Key} {d : D} {v : V} (r : Rep K G ρ d v) : KRep K G ρ (putD l k d) (putK m k v) := by
  unfold putD putK
  rw [h.any k]
  split
  · exact h.repl r
  · exact h.snoc r
theorem KRep.merge : ∀ {more : List (Key × D)} {mm : List (Key × V)} {l : List (Key × D)} {m : List (Key × V)}, KRep K G ρ more mm → KRep K G ρ l m → KRep K G ρ (mergeD l more) (mergeK m mm) := by
  intro more mm l m h
  induction h generalizing l m with
  | nil => intro q; exact q
  | @cons p q ps qs hp t ih =>
    intro r0
    have e : KRep K G ρ (putD l p.1 p.2) (putK m q.1 q.2) := by
      rw [← hp.1]
      exact r0.put hp.2
    exact ih e
/-- a dict or list of the store, by its number -/
def ownD (S : Store) : D → Option (Nat × List (Key × D))
  | .ref n => (match S[n]? with
    | some (.dic l) => some (n, l)
    | _ => none)
  | _ => none
theorem ownD_rep {x : D} {v : V} {n : Nat} {l : List (Key × D)} (rs : RS K G H ρ S) (rx : Rep K G ρ x v) (h : ownD S x = some (n, l)) : ∃ a kvs, v = .ref a ∧ ρ[n]? = some a ∧ H a = some (.dK kvs) ∧ KRep K G ρ l kvs := by
  unfold ownD at h
  split at h
  · rename_i m
    split at h
    · rename_i l0 hm
      injection h with h
      injection h with h1 h2
      subst h1 h2
      obtain ⟨a, e, q⟩ := rx
      obtain ⟨vs, q1, q2⟩ := rs.obj m _ a hm q
      exact ⟨a, vs, e, q, q1, q2⟩
    · cases h
  · cases h
end

/-! ### o[i] = v -/
def gSet : Store → D → D → D → Option Store := fun S o i v => match ownL S o with
  | some (n, l) => (match i with
    | .int k => (ixN l.length k).map fun j => S.set n (.lst (l.set j v))
    | _ => none)
  | none => match ownD S o with
    | some (n, l) => (keyOf i).bind fun k => if l.length < sizeLine then some (S.set n (.dic (putD l k v))) else none
    | none => none
def rSetA : TSet := fun o i v H Q => rSetL o i v H Q ∨ rSetD o i v H Q
theorem set_any {X : Cx} (hu : X.A.units + 1 < cLine) : PSet X rSetA := by
  intro pins s σ H o i v ov iv u Q I ro ri rv h
  rcases h with h | h
  · exact set_list pins s σ H o i v ov iv u Q I ro ri rv h
  · exact set_dict hu pins s σ H o i v ov iv u Q I ro ri rv h
theorem set_snd {K : W.Frag} {G H : Hp} {ρ : List Addr} {S S' : Store} {o i x : D} {ov iv v : V} {Q : Hp → Prop} (rs : RS K G H ρ S) (ro : Rep K G ρ o ov) (ri : Rep K G ρ i iv) (rx : Rep K G ρ x v) (h : gSet S o i x = some S')
    (q : ∀ H', Go G H ρ G H' ρ → RS K G H' ρ S' → Q H') : rSetA ov iv v H Q := by
  unfold gSet at h
  split at h
  · rename_i n l ho
    obtain ⟨a, ws, ev, hn, ha, hl⟩ := ownL_rep rs ro ho
    split at h
    · rename_i k
      cases z : ixN l.length k with
      | none => rw [z] at h; cases h
      | some j =>
        rw [z] at h
        have h : S.set n (.lst (l.set j x)) = S' := Option.some.inj h
        obtain ⟨g2, rs2⟩ := putL rs hn ha (hl.set j rx)
        rw [h] at rs2
        have ri : iv = .int k := ri
        exact .inl ⟨a, ws, k, j, ev, ri, ha, by rw [← hl.length]; exact z, q _ g2 rs2⟩
    · cases h
  · split at h
    · rename_i n l ho
      obtain ⟨a, kvs, ev, hn, ha, hl⟩ := ownD_rep rs ro ho
      cases hk : keyOf i with
      | none => rw [hk] at h; cases h
      | some k =>
        rw [hk] at h
        have h : (if l.length < sizeLine then some (S.set n (.dic (putD l k x))) else none) = some S' := h
        split at h
        · rename_i hz
          have h := Option.some.inj h
          subst h
          refine .inr ⟨a, _, ev, ?_, q _ (Go.put (List.mem_of_getElem? hn) (fun o u e => by rw [ha] at e; cases e) _) (rs.put hn (u := .dK (putK kvs k v)) (o := .dic (putD l k x)) ⟨_, upd_same, hl.put rx⟩)⟩
          rw [keyOf_rep ri hk]
          exact DPut.k ha (by rw [← hl.length]; exact hz)
        · cases h
    · cases h
def msSet (mv mo mi : M D) : MS := fun e S => bndS e (mv e S) fun v S1 => bndS e (mo e S1) fun o S2 => bndS e (mi e S2) fun i S3 => match gSet S3 o i v with
  | some S4 => some (.nx e S4)
  | none => none
theorem psd_sub {X : Cx} {Wx : WX} {o i value : Expr} {pos pos' : Pos} {mv mo mi : M D} (hu : X.A.units + 1 < cLine) (hv : PD X Wx value mv) (ho : PD X Wx o mo) (hi : PD X Wx i mi)
    (ha : ∀ v, assign (.Subscript o i pos') X.env v = (do
      let ov ← holding [v] (eval o X.env)
      let iv ← holding [v, ov] (eval i X.env)
      standAt pos'
      holding [v, ov, iv] (setItem ov iv v)
      release [v, ov, iv] []) := by intro _; rfl)
    (hs : swapsWithSole [.Subscript o i pos'] value pos.line X.env = pure false := by rfl) (hw : swappedStores [.Subscript o i pos'] value X.env = pure none := by rfl)
    (h1 : (assignEach [.Subscript o i pos'] X.env).map (·.2) = [assign (.Subscript o i pos') X.env] := by rfl) : PSD X Wx (.Assign [.Subscript o i pos'] value pos) (msSet mv mo mi) := by
  obtain ⟨tv, a1, a2⟩ := hv
  obtain ⟨to, b1, b2⟩ := ho
  obtain ⟨ti, c1, c2⟩ := hi
  refine ⟨_, ps_asg a1 (pg_sub b1 c1 (set_any hu) ha) hs hw h1, fun σ H D e G ρ S he rs q => ?_⟩
  refine a2 σ H _ e G ρ S he rs (Aft.imp (AftS.bnd q he) fun x S1 G1 H1 ρ1 g1 rs1 k v rv => ?_)
  refine b2 σ H1 _ e G1 ρ1 S1 (he.mono g1.gr g1.pl) rs1 (Aft.imp (AftS.bnd k (he.mono g1.gr g1.pl)) fun o S2 G2 H2 ρ2 g2 rs2 k2 ov ro => ?_)
  have g12 := g1.trans g2
  refine c2 σ H2 _ e G2 ρ2 S2 (he.mono g12.gr g12.pl) rs2 (Aft.imp (AftS.bnd k2 (he.mono g12.gr g12.pl)) fun i S3 G3 H3 ρ3 g3 rs3 k3 iv ri => ?_)
  have g23 := g2.trans g3
  cases z : gSet S3 o i x with
  | none => rw [z] at k3; exact k3.elim
  | some S4 =>
    rw [z] at k3
    have g13 := g1.trans g23
    exact set_snd rs3 (Rep.mono g3.gr g3.pl _ _ ro) ri (Rep.mono g23.gr g23.pl _ _ rv) z fun H' g4 rs4 => k3 G3 H' ρ3 σ g4 rs4 (he.mono g13.gr g13.pl)
/-- o[i] op= e -/
def msAugS (mo mi me : M D) (gg g : Store → D → D → Option D) : MS := fun e S => bndS e (mo e S) fun o S1 => bndS e (mi e S1) fun i S2 => bndS e (fin (gg S2 o i) S2) fun x S3 => bndS e (me e S3) fun y S4 => bndS e (fin (g S4 x y) S4) fun z S5 => match gSet S5 o i z with
  | some S6 => some (.nx e S6)
  | none => none
theorem psd_augS {X : Cx} {Wx : WX} {o i ex : Expr} {op : Operator} {pos tpos : Pos} {mo mi me : M D} {rg rp : R2} {gg g : Store → D → D → Option D} (hu : X.A.units + 1 < cLine) (hg : PGet X rg) (og : OpS X.K rg gg) (hp : OpR X (inplaceOp op) rp) (op' : OpS X.K rp g)
    (ho : PD X Wx o mo) (hi : PD X Wx i mi) (he : PD X Wx ex me)
    (ha : ∀ ov iv new, augStore i ov iv new = (do holding [new, ov, iv] (setItem ov iv new); release [new, ov, iv] []; pure .next) := by intros; rfl) : PSD X Wx (.AugAssign (.Subscript o i tpos) op ex pos) (msAugS mo mi me gg g) := by
  obtain ⟨to, b1, b2⟩ := ho
  obtain ⟨ti, c1, c2⟩ := hi
  obtain ⟨te, a1, a2⟩ := he
  refine ⟨_, ps_augS b1 c1 hg a1 (tip := rp) (fun pins s σ H x y v u Q I rx ry q => hp pins s σ H x y v u Q I rx ry q) (set_any hu) ha, fun σ H D e G ρ S he rs q => ?_⟩
  refine b2 σ H _ e G ρ S he rs (Aft.imp (AftS.bnd q he) fun o S1 G1 H1 ρ1 g1 rs1 k ov ro => ?_)
  refine c2 σ H1 _ e G1 ρ1 S1 (he.mono g1.gr g1.pl) rs1 (Aft.imp (AftS.bnd k (he.mono g1.gr g1.pl)) fun i S2 G2 H2 ρ2 g2 rs2 k2 iv ri => ?_)
  cases z1 : gg S2 o i with
  | none => rw [z1] at k2; exact k2.elim
  | some x =>
    rw [z1] at k2
    dsimp only [fin, bndS] at k2
    refine og G2 H2 ρ2 S2 o i ov iv _ rs2 (Rep.mono g2.gr g2.pl _ _ ro) ri x z1 fun G3 H3 g3 rs3 xv rx => ?_
    have g23 := g2.trans g3
    have g13 := g1.trans g23
    refine a2 σ H3 _ e G3 ρ2 S2 (he.mono g13.gr g13.pl) rs3 (Aft.imp (AftS.bnd (AftS.shift k2 g3) (he.mono g13.gr g13.pl)) fun y S4 G4 H4 ρ4 g4 rs4 k4 yv ry => ?_)
    cases z2 : g S4 x y with
    | none => rw [z2] at k4; exact k4.elim
    | some w =>
      rw [z2] at k4
      dsimp only [fin, bndS] at k4
      refine op' G4 H4 ρ4 S4 x y xv yv _ rs4 (Rep.mono g4.gr g4.pl _ _ rx) ry w z2 fun G5 H5 g5 rs5 wv rw' => ?_
      cases z3 : gSet S4 o i w with
      | none => rw [z3] at k4; exact k4.elim
      | some S6 =>
        rw [z3] at k4
        have g45 := g4.trans g5
        have g25 := g23.trans g45
        have g15 := g1.trans g25
        have g35 := g3.trans g45
        exact set_snd rs5 (Rep.mono g25.gr g25.pl _ _ ro) (Rep.mono g35.gr g35.pl _ _ ri) rw' z3 fun H' g6 rs6 => k4 G5 H' ρ4 σ (g5.trans g6) rs6 (he.mono g15.gr g15.pl)
end MD
set_option Elab.async false
set_option linter.all false
set_option maxRecDepth 100000
set_option maxHeartbeats 1000000
/-! calls of the text's own defs; raise -/
namespace MD
open PySem PySem.Spec PyProof.Rows L2

abbrev Fn := List D → Store → Out (D × Store)
def wX (K : W.Frag) (E : XK) : XW := fun x G' H' ρ' => ∀ c d, XRep K G' H' ρ' x c d → E c d H'
/-- a def's promise -/
def spF (K : W.Frag) (n : Nat) (F : Fn) : Sp := fun vs H Q E => ∃ ds G ρ S, RS K G H ρ S ∧ Reps K G ρ ds vs ∧ ds.length = n ∧ Aft K (wX K E) G H ρ (F ds S) (Want K Q)
def startE (N : Nat) (ds : List D) : Env := ds.map some ++ List.replicate (N - ds.length) none
def mkF (N : Nat) (b : MS) : Fn := fun ds S => match b (startE N ds) S with
  | some (.nx _ S') => .some (.non, S')
  | some (.rt d S') => .some (d, S')
  | some (.ex x _ S') => .err x S'
  | _ => .none
theorem envR_start {K : W.Frag} {G : Hp} {ρ : List Addr} {N : List Str} {ds : List D} {vs : List V} (h : Reps K G ρ ds vs) : EnvR K G ρ (startE N.length ds) (L2.start N vs) := by
  refine ⟨?_, fun i d e => ?_⟩
  · unfold startE L2.start
    rw [List.length_append, List.length_append, List.length_map, List.length_map, List.length_replicate, List.length_replicate, h.length]
  · unfold startE at e
    by_cases hi : i < ds.length
    · rw [List.getElem?_append_left (by simpa using hi), List.getElem?_map] at e
      cases q : ds[i]? with
      | none => rw [q] at e; cases e
      | some x =>
        rw [q] at e
        have e : x = d := Option.some.inj (Option.some.inj e)
        subst e
        obtain ⟨v, h1, h2⟩ := h.get q
        refine ⟨v, ?_, h2⟩
        unfold L2.start
        rw [List.getElem?_append_left (by rw [List.length_map, ← h.length]; exact hi), List.getElem?_map, h1]
        rfl
    · rw [List.getElem?_append_right (by simpa using Nat.not_lt.mp hi), List.getElem?_replicate] at e
      split at e <;> cases e
section
variable {P : Program} {w : World} {K : PySem.W.Frag} {mg : Str → Option Value} {base : Heap}
/-- a def by its body's plain function -/
theorem ok_fn {x qual : Str} {st : Stmt} {f : Addr} {fd : FuncData} {N ps : List Str} {k n : Nat} {b : MS} (F : Fun K x qual st f fd) (S : FnScope N ps (defScope st)) (hn : n = ps.length)
    (hb : ∀ (cdv : Value) (A : Around) (outer : List PySem.Env) (s : Shared) (H : Hp) (E : XK), Room k (A.deeper (envOfC qual (defScope st) s.heap.objs.size f cdv)) →
      PBl (cxOf (L2.CX P w) P w K mg base N qual (defScope st) f cdv A outer s H E) (fun c d _ H' => E c d H') (defBody st) b) : FnOk P w K mg base (L2.CX P w) (k + 1) f fd ps (spF K n (mkF N.length b)) := by
  refine F.okX S (fun vs H Q E h => ?_) (fun cdv A outer s H vs Q E hr h => ?_)
  · obtain ⟨ds, G, ρ, S, rs, rv, hl, q⟩ := h
    rw [← rv.length, hl, hn]
  · obtain ⟨ds, G, ρ, S1, rs, rv, hl, q⟩ := h
    obtain ⟨t, h1, h2⟩ := hb cdv A outer s H E hr
    refine ⟨t, h1, h2 (L2.start N vs) H _ _ G ρ S1 (envR_start rv) rs ?_⟩
    unfold mkF at q
    cases z : b (startE N.length ds) S1 with
    | none => rw [z] at q; exact q.elim
    | some r =>
      rw [z] at q
      cases r with
      | nx e S2 => exact fun G' H' ρ' σ' g rs he => q G' H' ρ' g rs .non rfl
      | rt d S2 => exact fun G' H' ρ' v g rs rv => q G' H' ρ' g rs v rv
      | bk e S2 => exact q.elim
      | ct e S2 => exact q.elim
      | ex x e S2 => exact fun G' H' ρ' σ' c d g rs he xr => q G' H' ρ' g rs c d xr
/-- a def at no level at all -/
theorem ok_fn0 {f : Addr} {fd : FuncData} {ps : List Str} {k n : Nat} : FnOk P w K mg base (L2.CX P w) k f fd ps (spF K n fun _ _ => .none) :=
  ⟨fun vs H Q E ⟨_, _, _, _, _, _, _, q⟩ => q.elim, fun A outer s H args us vs Q E hr he hb hv ⟨_, _, _, _, _, _, _, q⟩ => q.elim⟩
/-- a def that may be called by its name -/
structure Fcal (P : Program) (w : World) (K : PySem.W.Frag) (mg : Str → Option Value) (base : Heap) (k : Nat) (x : Str) (n : Nat) (F : Fn) : Prop where
  ex : ∃ (f : Addr) (fd : FuncData) (ps : List Str), FnOk P w K mg base (L2.CX P w) k f fd ps (spF K n F) ∧ mg x = some (.ref f) ∧ PySem.W.keepIn K (.ref f) = true ∧ Binds K fd ps []
end

/-! ### calls -/
def mCall (n : Nat) (F : Fn) (m : M (List D)) : M D := fun e S => bnd (m e S) fun ds S1 => if ds.length = n then F ds S1 else .none
/-- no owned object within -/
def noRef : D → Bool
  | .tup l => noRefs l
  | .lst l => noRefs l
  | .scr l => noRefs l
  | .ref _ => false
  | _ => true
where noRefs : List D → Bool
  | [] => true
  | d :: l => noRef d && noRefs l
abbrev noRefs := noRef.noRefs
mutual
theorem Rep.nr {K : W.Frag} {G : Hp} {ρ ρ' : List Addr} : ∀ (d : D) (v : V), noRef d = true → Rep K G ρ d v → Rep K G ρ' d v
  | .non, v, _, h => h
  | .bl b, v, _, h => h
  | .int i, v, _, h => h
  | .str s, v, _, h => h
  | .tup l, v, n, h => by
    obtain ⟨a, vs, e, h1, h2⟩ := h
    exact ⟨a, vs, e, h1, Reps.nr l vs (by rw [noRef] at n; exact n) h2⟩
  | .lst l, v, n, h => by
    obtain ⟨a, vs, e, h1, h2⟩ := h
    exact ⟨a, vs, e, h1, Reps.nr l vs (by rw [noRef] at n; exact n) h2⟩
  | .scr l, v, n, h => by
    obtain ⟨a, vs, e, h1, h2⟩ := h
    exact ⟨a, vs, e, h1, Reps.nr l vs (by rw [noRef] at n; exact n) h2⟩
  | .ref n, v, h, _ => by rw [noRef] at h; cases h
  | .ty n, v, _, h => h
  | .adr a, v, _, h => h
theorem Reps.nr {K : W.Frag} {G : Hp} {ρ ρ' : List Addr} : ∀ (l : List D) (vs : List V), noRefs l = true → Reps K G ρ l vs → Reps K G ρ' l vs
  | [], vs, _, h => h
  | d :: l, vs, n, h => by
    obtain ⟨v, r, e, h1, h2⟩ := h
    have n : (noRef d && noRefs l) = true := by rw [noRefs, noRef.noRefs] at n; exact n
    rw [Bool.and_eq_true] at n
    exact ⟨v, r, e, Rep.nr d v n.1 h1, Reps.nr l r n.2 h2⟩
end
/-- owned lists within, taken for standing ones -/
def conv (S : Store) : Nat → D → Option D
  | 0, d => if noRef d = true then some d else none
  | n + 1, d => if noRef d = true then some d else match d with
    | .tup l => (l.mapM (conv S n)).map .tup
    | .lst l => (l.mapM (conv S n)).map .lst
    | .ref m => (match S[m]? with
      | some (.lst l) => (l.mapM (conv S n)).map .lst
      | _ => none)
    | _ => none
theorem conv_nr {S : Store} {n : Nat} {d : D} (h : noRef d = true) : conv S n d = some d := by
  cases n with
  | zero =>
    unfold conv
    rw [if_pos h]
  | succ n =>
    unfold conv
    rw [if_pos h]
/-- the heap that stands, the callee's lists with it -/
def grow (G H : Hp) (ρ : List Addr) : Hp := fun a => match G a with
  | some o => some o
  | none => if a ∈ ρ then (match H a with
    | some (.lst vs) => some (.lst vs)
    | _ => none) else none
section
variable {K : W.Frag} {G G1 H H1 : Hp} {ρ ρ1 : List Addr} {S S1 : Store}
theorem grow_le : GLe G (grow G H ρ) := fun a o e => by
  unfold grow
  rw [e]
theorem grow_of {a : Addr} {o : HO} (h : grow G H ρ a = some o) : G a = some o ∨ (a ∈ ρ ∧ H a = some o) := by
  unfold grow at h
  cases q : G a with
  | some u => rw [q] at h; exact .inl h
  | none =>
    rw [q] at h
    dsimp only at h
    split at h
    · rename_i ha
      split at h
      · rename_i vs hv
        rw [← Option.some.inj h]
        exact .inr ⟨ha, hv⟩
      · cases h
    · cases h
theorem mapM_conv {S : Store} {n : Nat} (ih : ∀ d d' v, conv S n d = some d' → Rep K G ρ d v → Rep K (grow G H ρ) ρ1 d' v) : ∀ (l l' : List D) (vs : List V), l.mapM (conv S n) = some l' → Reps K G ρ l vs → Reps K (grow G H ρ) ρ1 l' vs
  | [], l', vs, h, r => by
    rw [List.mapM_nil] at h
    have h : [] = l' := Option.some.inj h
    subst h
    exact r
  | d :: l, l', vs, h, r => by
    rw [List.mapM_cons] at h
    obtain ⟨v, r0, e, h1, h2⟩ := r
    cases q : conv S n d with
    | none => rw [q] at h; cases h
    | some d' =>
      rw [q] at h
      have h : ((l.mapM (conv S n)).bind fun b => pure (d' :: b)) = some l' := h
      cases q2 : l.mapM (conv S n) with
      | none => rw [q2] at h; cases h
      | some t =>
        rw [q2] at h
        have h : d' :: t = l' := Option.some.inj h
        subst h
        exact ⟨v, r0, e, ih d d' v q h1, mapM_conv ih l t r0 q2 h2⟩
theorem conv_rep (rs : RS K G H ρ S) : ∀ (n : Nat) (d d' : D) (v : V), conv S n d = some d' → Rep K G ρ d v → Rep K (grow G H ρ) ρ1 d' v
  | 0, d, d', v, h, r => by
    unfold conv at h
    split at h
    · rename_i hn
      rw [← Option.some.inj h]
      exact Rep.mono grow_le (PLe.refl _) _ _ (Rep.nr d v hn r)
    · cases h
  | n + 1, d, d', v, h, r => by
    unfold conv at h
    split at h
    · rename_i hn
      rw [← Option.some.inj h]
      exact Rep.mono grow_le (PLe.refl _) _ _ (Rep.nr d v hn r)
    · split at h
      · rename_i l _
        obtain ⟨a, vs, e, h1, h2⟩ := r
        cases q : l.mapM (conv S n) with
        | none => rw [q] at h; cases h
        | some l' =>
          rw [q] at h
          have h : D.tup l' = d' := Option.some.inj h
          subst h
          exact ⟨a, vs, e, grow_le.sqt h1, mapM_conv (conv_rep rs n) l l' vs q h2⟩
      · rename_i l _
        obtain ⟨a, vs, e, h1, h2⟩ := r
        cases q : l.mapM (conv S n) with
        | none => rw [q] at h; cases h
        | some l' =>
          rw [q] at h
          have h : D.lst l' = d' := Option.some.inj h
          subst h
          exact ⟨a, vs, e, grow_le _ _ h1, mapM_conv (conv_rep rs n) l l' vs q h2⟩
      · rename_i m _
        split at h
        · rename_i l hl
          obtain ⟨a, e, h1⟩ := r
          obtain ⟨vs, h2, h3⟩ := rs.obj m _ a hl h1
          cases q : l.mapM (conv S n) with
          | none => rw [q] at h; cases h
          | some l' =>
            rw [q] at h
            have h : D.lst l' = d' := Option.some.inj h
            subst h
            refine ⟨a, vs, e, ?_, mapM_conv (conv_rep rs n) l l' vs q h3⟩
            unfold grow
            rw [rs.out a (List.mem_of_getElem? h1), h2]
            dsimp only
            rw [if_pos (List.mem_of_getElem? h1)]
        · cases h
      · cases h
def convX (S : Store) (n : Nat) : XV → Option XV
  | .own C => some (.own C)
  | .fld C l => (l.mapM fun p => (conv S n p.2).map fun d => (p.1, d)).map (.fld C)
theorem convX_rep (rs : RS K G H ρ S) {n : Nat} {x x' : XV} {c : Value} {d : Option Addr} (h : convX S n x = some x') (r : XRep K (grow G H ρ) H ρ1 x' c d → False) : XRep K G H ρ x c d → False := by
  intro r0
  refine r ?_
  cases x with
  | own C =>
    have h : XV.own C = x' := Option.some.inj h
    subst h
    exact r0
  | fld C l =>
    obtain ⟨ec, dd, fs, ed, hd, pr⟩ := r0
    cases q : l.mapM (fun p => (conv S n p.2).map fun d => (p.1, d)) with
    | none => rw [convX, q] at h; cases h
    | some l' =>
      rw [convX, q] at h
      have h : XV.fld C l' = x' := Option.some.inj h
      subst h
      refine ⟨ec, dd, fs, ed, hd, ?_⟩
      clear hd ed r
      induction pr generalizing l' with
      | nil =>
        rw [List.mapM_nil] at q
        have q : [] = l' := Option.some.inj q
        subst q
        exact .nil
      | @cons p u ps us hp t ih =>
        rw [List.mapM_cons] at q
        cases z : conv S n p.2 with
        | none => rw [z] at q; cases q
        | some d' =>
          rw [z] at q
          have q : ((ps.mapM (fun p => (conv S n p.2).map fun d => (p.1, d))).bind fun b => pure ((p.1, d') :: b)) = some l' := q
          cases z2 : ps.mapM (fun p => (conv S n p.2).map fun d => (p.1, d)) with
          | none => rw [z2] at q; cases q
          | some t' =>
            rw [z2] at q
            have q : (p.1, d') :: t' = l' := Option.some.inj q
            subst q
            exact .cons ⟨hp.1, conv_rep rs n _ _ _ z hp.2⟩ (ih t' z2 rfl)
/-- behind a call in a store of its own -/
theorem back (rs1 : RS K G1 H1 ρ1 S1) (g : Go G1 H1 [] G H ρ) (rs : RS K G H ρ S) : Go G1 H1 ρ1 (grow G H ρ) H ρ1 ∧ RS K (grow G H ρ) H ρ1 S1 := by
  have nin : ∀ a o, H1 a = some o → a ∉ ρ := fun a o e hm => by
    rcases g.nw a hm with q | q
    · cases q
    · rw [e] at q; cases q
  have none_ : ∀ a o, H1 a = some o → G1 a = none → grow G H ρ a = none := fun a o e hg => by
    cases q : grow G H ρ a with
    | none => rfl
    | some u =>
      rcases grow_of q with q | q
      · rw [g.hid a o e (List.not_mem_nil) hg] at q; cases q
      · exact absurd q.1 (nin a o e)
  refine ⟨⟨g.gr.trans grow_le, PLe.refl _, fun a h => .inl h, fun a o e _ => g.fr a o e List.not_mem_nil, fun a o e _ hg => none_ a o e hg, g.tr, g.fz⟩, ⟨rs1.len, rs1.nd, fun a o e => ?_, fun a ha => ?_, fun n o a h1 h2 => ?_⟩⟩
  · rcases grow_of e with q | q
    · exact rs.sub a o q
    · exact q.2
  · obtain ⟨u, e⟩ := rs1.there ha
    exact none_ a u e (rs1.out a ha)
  · obtain ⟨u, e⟩ := (rs1.obj n o a h1 h2).some
    exact (rs1.obj n o a h1 h2).mono (g.gr.trans grow_le) (PLe.refl _) (by rw [e]; exact g.fr a u e List.not_mem_nil)
end
def pureR (n : Nat) (S1 : Store) (r : Out (D × Store)) : Out (D × Store) := match r with
  | .none => .none
  | .some (d, S2) => (match conv S2 n d with
    | some d' => .some (d', S1)
    | none => .none)
  | .err x S2 => (match convX S2 n x with
    | some x' => .err x' S1
    | none => .none)
/-- a call in a store of its own: what is passed in holds no owned object -/
def mCallP (n : Nat) (F : Fn) (m : M (List D)) : M D := fun e S => bnd (m e S) fun ds S1 => if ds.length = n ∧ noRefs ds = true then pureR 40 S1 (F ds []) else .none
theorem pure_aft {K : W.Frag} {Wx : WX} {σ : L2.St} {G1 H1 : Hp} {ρ1 : List Addr} {S1 : Store} {Q : VK} {r : Out (D × Store)} (rs1 : RS K G1 H1 ρ1 S1) (k : Aft K (wE K Wx σ) G1 H1 ρ1 (pureR 40 S1 r) (Want K Q)) : Aft K (wX K (WE Wx σ)) G1 H1 [] r (Want K Q) := by
  cases r with
  | none => exact k.elim
  | some r =>
    obtain ⟨d, S2⟩ := r
    have k : Aft K (wE K Wx σ) G1 H1 ρ1 (match conv S2 40 d with
      | some d' => .some (d', S1)
      | none => .none) (Want K Q) := k
    intro G2 H2 ρ2 g2 rs2 v rv2
    cases z2 : conv S2 40 d with
    | none => rw [z2] at k; exact k.elim
    | some d' =>
      rw [z2] at k
      obtain ⟨g3, rs3⟩ := back rs1 g2 rs2
      exact k _ H2 ρ1 g3 rs3 v (conv_rep rs2 40 d d' v z2 rv2)
  | err x S2 =>
    have k : Aft K (wE K Wx σ) G1 H1 ρ1 (match convX S2 40 x with
      | some x' => .err x' S1
      | none => .none) (Want K Q) := k
    intro G2 H2 ρ2 g2 rs2 c d xr
    cases z2 : convX S2 40 x with
    | none => rw [z2] at k; exact k.elim
    | some x' =>
      rw [z2] at k
      obtain ⟨g3, rs3⟩ := back rs1 g2 rs2
      refine Classical.byContradiction fun no => convX_rep (ρ1 := ρ1) rs2 z2 (fun r => no (k _ H2 ρ1 g3 rs3 c d r)) xr
section
variable {K : W.Frag} {Wx : WX}
theorem snd_call {n : Nat} {F : Fn} {t : TA} {m : M (List D)} (h : SndA K Wx t m) : SndE K Wx (tCallS (spF K n F) (WE Wx) t) (mCall n F m) := by
  intro σ H Q e G ρ S he rs q
  refine h σ H _ e G ρ S he rs (Aft.imp (Aft.bind q) fun ds S1 G1 H1 ρ1 g1 rs1 k vs rv => ?_)
  split at k
  · rename_i hl
    exact ⟨ds, G1, ρ1, S1, rs1, rv, hl, k⟩
  · exact k.elim
theorem snd_callP {n : Nat} {F : Fn} {t : TA} {m : M (List D)} (h : SndA K Wx t m) : SndE K Wx (tCallS (spF K n F) (WE Wx) t) (mCallP n F m) := by
  intro σ H Q e G ρ S he rs q
  refine h σ H _ e G ρ S he rs (Aft.imp (Aft.bind q) fun ds S1 G1 H1 ρ1 g1 rs1 k vs rv => ?_)
  split at k
  · rename_i hl
    have rs0 : RS K G1 H1 [] [] := ⟨rfl, List.nodup_nil, rs1.sub, fun a ha => absurd ha List.not_mem_nil, fun n o a h _ => by simp at h⟩
    refine ⟨ds, G1, [], [], rs0, Reps.nr ds vs hl.2 rv, hl.1, ?_⟩
    cases z : F ds [] with
    | none => rw [z] at k; exact k.elim
    | some r =>
      obtain ⟨d, S2⟩ := r
      rw [z] at k
      have k : Aft K (wE K Wx σ) G1 H1 ρ1 (match conv S2 40 d with
        | some d' => .some (d', S1)
        | none => .none) (Want K Q) := k
      intro G2 H2 ρ2 g2 rs2 v rv2
      cases z2 : conv S2 40 d with
      | none => rw [z2] at k; exact k.elim
      | some d' =>
        rw [z2] at k
        obtain ⟨g3, rs3⟩ := back rs1 g2 rs2
        exact k _ H2 ρ1 g3 rs3 v (conv_rep rs2 40 d d' v z2 rv2)
    | err x S2 =>
      rw [z] at k
      have k : Aft K (wE K Wx σ) G1 H1 ρ1 (match convX S2 40 x with
        | some x' => .err x' S1
        | none => .none) (Want K Q) := k
      intro G2 H2 ρ2 g2 rs2 c d xr
      cases z2 : convX S2 40 x with
      | none => rw [z2] at k; exact k.elim
      | some x' =>
        rw [z2] at k
        obtain ⟨g3, rs3⟩ := back rs1 g2 rs2
        refine Classical.byContradiction fun no => convX_rep (ρ1 := ρ1) rs2 z2 (fun r => no (k _ H2 ρ1 g3 rs3 c d r)) xr
  · exact k.elim
end
section
variable {X : Cx} {Wx : WX} {k j n : Nat} {x : Str} {F : Fn} {p pos : Pos} {e : Expr} {es : List Expr} {m : M (List D)}
theorem pd_call (c : Fcal X.prog X.w X.K X.mg X.base k x n F) (hr : Room j X.A) (hk : k ≤ j) (tk : Takes X Wx) (hg : Gl X x) (ha : PAs X Wx (e :: es) m)
    (hdb : (x == ("__debug__" : Str)) = false := by decide) (he : starEach (e :: es) X.env = (false, eval e X.env) :: starEach es X.env := by rfl) (hpl : (backTo pos (starEach es X.env)).any (·.1) = false := by rfl) : PD X Wx (.Call (.Name x p) (e :: es) [] pos) (mCall n F m) := by
  obtain ⟨f, fd, ps, ok, hm, kp, b⟩ := c.ex
  obtain ⟨t, h1, h2⟩ := ha
  exact ⟨_, pe_callS ok (hr.mono hk) hg hm kp b (fun σ => passAt tk σ) h1 hdb he hpl, snd_call h2⟩
theorem pd_callP (c : Fcal X.prog X.w X.K X.mg X.base k x n F) (hr : Room j X.A) (hk : k ≤ j) (tk : Takes X Wx) (hg : Gl X x) (ha : PAs X Wx (e :: es) m)
    (hdb : (x == ("__debug__" : Str)) = false := by decide) (he : starEach (e :: es) X.env = (false, eval e X.env) :: starEach es X.env := by rfl) (hpl : (backTo pos (starEach es X.env)).any (·.1) = false := by rfl) : PD X Wx (.Call (.Name x p) (e :: es) [] pos) (mCallP n F m) := by
  obtain ⟨f, fd, ps, ok, hm, kp, b⟩ := c.ex
  obtain ⟨t, h1, h2⟩ := ha
  exact ⟨_, pe_callS ok (hr.mono hk) hg hm kp b (fun σ => passAt tk σ) h1 hdb he hpl, snd_callP h2⟩
theorem pe_callS0 {CX : CXT} {f : Addr} {fd : FuncData} {ps : List Str} {sp : Sp} {E : L2.St → XK} (F : FnOk X.prog X.w X.K X.mg X.base CX k f fd ps sp) (hr : Room k X.A) (hg : Gl X x) (hm : X.mg x = some (.ref f)) (hk : PySem.W.keepIn X.K (.ref f) = true) (hb : Binds X.K fd ps []) (hx : ∀ σ, PassesAt CX X σ (E σ))
    (hdb : (x == ("__debug__" : Str)) = false := by decide) : PE X (.Call (.Name x p) [] [] pos) (tCallS sp E tNil) := by
  refine ⟨fun pins s σ H Q I h => ?_⟩
  refine wpAny_Call_Name_kw (ld_glob I hg hm ?_ hdb)
  exact PySem.W.callWith_K0 I.kIn hk (run_fnS (us := []) F hr hb (hx σ) I .nil h)
theorem pd_call0 (c : Fcal X.prog X.w X.K X.mg X.base k x n F) (hr : Room j X.A) (hk : k ≤ j) (tk : Takes X Wx) (hg : Gl X x) (hdb : (x == ("__debug__" : Str)) = false := by decide) : PD X Wx (.Call (.Name x p) [] [] pos) (mCallP n F mNil) := by
  obtain ⟨f, fd, ps, ok, hm, kp, b⟩ := c.ex
  exact ⟨_, pe_callS0 ok (hr.mono hk) hg hm kp b (fun σ => passAt tk σ) hdb, snd_callP snd_nil⟩

/-! ### raise -/
theorem pmk_own0 {C : Addr} {bmB : List Value} {B newId initId : String} (Fc : ExcBaseFacts B newId initId bmB) (q : PySem.W.excIn X.K C bmB newId = true) (gC : X.mg x = some (.ref C)) (kC : PySem.W.keepIn X.K (.ref C) = true) (r : Raises X (.ref C)) (hg : Gl X x)
    (hdb : (x == ("__debug__" : Str)) = false := by decide) : PMk X (.Call (.Name x p) [] [] pos) (fun σ H Q => Q (.ref C) none H) := by
  intro pins s σ H Q I hw
  refine wpAny_Call_Name_kw (ld_glob I hg gC ?_ hdb)
  refine PySem.W.callWith_K0 I.kIn kC ?_
  obtain ⟨bm, N, nm, qn, bs, hdct, sn, sub, ab, col, dd, k0, k1, k2, k3, k5, mN, hC, hN, hni, T⟩ := exc_obj I.kIn q
  refine wpAny_call_exc_subT Fc T hC hN hni (fun h' e hm => ?_) (by show 0 ≤ sizeLine; exact Nat.zero_le _)
  exact mk_of I hm r hw (I.hok.gone hm.new)
def msRaise (x : XV) : MS := fun e S => some (.ex x e S)
/-- what is known of a class that may be raised by its bare call -/
structure Bare (K : PySem.W.Frag) (mg : Str → Option Value) (x : Str) (C : Addr) : Prop where
  at_ : mg x = some (.ref C)
  kp : PySem.W.keepIn K (.ref C) = true
  ex : ∃ bmB B newId initId, ExcBaseFacts B newId initId bmB ∧ PySem.W.excIn K C bmB newId = true
  sub : PySem.W.subIn K (.ref C) (.type "BaseException") = some true
  ty : PySem.W.typeIn K (.ref C) = some (.type "type")
theorem psd_raise {C : Addr} (b : Bare X.K X.mg x C) (hc : X.calm = true) (tk : Takes X Wx) (hg : Gl X x) {pos2 : Pos} (hdb : (x == ("__debug__" : Str)) = false := by decide) : PSD X Wx (.Raise (some (.Call (.Name x p) [] [] pos)) none pos2) (msRaise (.own C)) := by
  obtain ⟨bmB, B, newId, initId, h1, h2⟩ := b.ex
  refine ⟨_, ps_raise hc tk (pmk_own0 h1 h2 b.at_ b.kp (raises_own b.sub b.ty) hg hdb), fun σ H D e G ρ S he rs q => ?_⟩
  exact q G H ρ σ _ _ Go.refl rs he ⟨rfl, rfl⟩
end
end MD
set_option Elab.async false
set_option linter.all false
set_option maxRecDepth 100000
set_option maxHeartbeats 1000000
/-! calls that only look at what the caller owns -/
namespace MD
open PySem PySem.Spec PyProof.Rows L2

/-- no list within -/
def noLst : D → Bool
  | .tup l => noLsts l
  | .lst _ => false
  | .scr _ => false
  | .ref _ => false
  | _ => true
where noLsts : List D → Bool
  | [] => true
  | d :: l => noLst d && noLsts l
abbrev noLsts := noLst.noLsts
/-- the heap that stands, without what the caller owns -/
def less (G : Hp) (ρ : List Addr) : Hp := fun a => if a ∈ ρ then none else G a
section
variable {K : W.Frag} {G G1 H H1 : Hp} {ρ ρ1 : List Addr} {S S1 : Store}
theorem less_of {a : Addr} {o : HO} (h : less G ρ a = some o) : G a = some o ∧ a ∉ ρ := by
  unfold less at h
  split at h
  · cases h
  · rename_i ha
    exact ⟨h, ha⟩
theorem less_at {a : Addr} {o : HO} (h : G a = some o) (ha : a ∉ ρ) : less G ρ a = some o := by
  unfold less
  rw [if_neg ha]
  exact h
theorem own_not_tup (rs : RS K G H ρ S) {a : Addr} (ha : a ∈ ρ) {vs : List V} : ¬ Rd H a (.tup vs) := by
  obtain ⟨n, hn, e⟩ := List.mem_iff_getElem.mp ha
  have h2 : n < S.length := by rw [← rs.len]; exact hn
  have r := rs.obj n S[n] a (List.getElem?_eq_getElem h2) (by rw [List.getElem?_eq_getElem hn, e])
  rintro (q | ⟨o, q⟩)
  · cases z : S[n] with
    | lst l => rw [z] at r; obtain ⟨ws, r1, _⟩ := r; rw [q] at r1; cases r1
    | dic l => rw [z] at r; obtain ⟨ws, r1, _⟩ := r; rw [q] at r1; cases r1
    | dlk l => rw [z] at r; obtain ⟨ws, ⟨o, r1⟩, _⟩ := r; rw [q] at r1; cases r1
  · cases z : S[n] with
    | lst l => rw [z] at r; obtain ⟨ws, r1, _⟩ := r; rw [q] at r1; cases r1
    | dic l => rw [z] at r; obtain ⟨ws, r1, _⟩ := r; rw [q] at r1; cases r1
    | dlk l => rw [z] at r; obtain ⟨ws, ⟨o, r1⟩, _⟩ := r; rw [q] at r1; cases r1
mutual
theorem Rep.less (rs : RS K G1 H ρ1 S1) (sub : GLe G H) : ∀ (d : D) (v : V), noLst d = true → Rep K G ρ d v → Rep K (less G ρ1) ρ1 d v
  | .non, v, _, h => h
  | .bl b, v, _, h => h
  | .int i, v, _, h => h
  | .str s, v, _, h => h
  | .tup l, v, n, h => by
    obtain ⟨a, vs, e, h1, h2⟩ := h
    have n : noLsts l = true := by rw [noLst] at n; exact n
    refine ⟨a, vs, e, ?_, Reps.less rs sub l vs n h2⟩
    rcases h1 with h1 | h1
    · have na : a ∉ ρ1 := fun ha => own_not_tup rs ha (sub.rd h1)
      refine .inl ?_
      rcases h1 with h1 | ⟨o, h1⟩
      · exact .inl (less_at h1 na)
      · exact .inr ⟨o, less_at h1 na⟩
    · exact .inr h1
  | .lst l, v, n, h => by rw [noLst] at n; cases n
  | .scr l, v, n, h => by rw [noLst] at n; cases n
  | .ref m, v, n, h => by rw [noLst] at n; cases n
  | .ty n, v, _, h => h
  | .adr a, v, _, h => h
theorem Reps.less (rs : RS K G1 H ρ1 S1) (sub : GLe G H) : ∀ (l : List D) (vs : List V), noLsts l = true → Reps K G ρ l vs → Reps K (less G ρ1) ρ1 l vs
  | [], vs, _, h => h
  | d :: l, vs, n, h => by
    obtain ⟨v, r, e, h1, h2⟩ := h
    have n : (noLst d && noLsts l) = true := by rw [noLsts, noLst.noLsts] at n; exact n
    rw [Bool.and_eq_true] at n
    exact ⟨v, r, e, Rep.less rs sub d v n.1 h1, Reps.less rs sub l r n.2 h2⟩
end
theorem back2 (rs1 : RS K G1 H1 ρ1 S1) (g : Go (grow G1 H1 ρ1) H1 [] G H ρ) (rs : RS K G H ρ S) : Go G1 H1 ρ1 (less (grow G H ρ) ρ1) H ρ1 ∧ RS K (less (grow G H ρ) ρ1) H ρ1 S1 := by
  have nin : ∀ a o, H1 a = some o → a ∉ ρ := fun a o e hm => by
    rcases g.nw a hm with q | q
    · cases q
    · rw [e] at q; cases q
  have le : GLe G1 (less (grow G H ρ) ρ1) := fun a o e => less_at (grow_le a o (g.gr a o (grow_le a o e))) fun ha => by
    rw [rs1.out a ha] at e; cases e
  refine ⟨⟨le, PLe.refl _, fun a h => .inl h, fun a o e _ => g.fr a o e List.not_mem_nil, fun a o e ha hg => ?_, g.tr, g.fz⟩, ⟨rs1.len, rs1.nd, fun a o e => ?_, fun a ha => ?_, fun n o a h1 h2 => ?_⟩⟩
  · cases q : less (grow G H ρ) ρ1 a with
    | none => rfl
    | some u =>
      obtain ⟨q1, _⟩ := less_of q
      have g1 : grow G1 H1 ρ1 a = none := by
        cases z : grow G1 H1 ρ1 a with
        | none => rfl
        | some u2 =>
          rcases grow_of z with z | z
          · rw [hg] at z; cases z
          · exact absurd z.1 ha
      rcases grow_of q1 with q1 | q1
      · rw [g.hid a o e List.not_mem_nil g1] at q1; cases q1
      · exact absurd q1.1 (nin a o e)
  · obtain ⟨q1, _⟩ := less_of e
    rcases grow_of q1 with q1 | q1
    · exact rs.sub a o q1
    · exact q1.2
  · unfold less
    rw [if_pos ha]
  · obtain ⟨u, e⟩ := (rs1.obj n o a h1 h2).some
    exact (rs1.obj n o a h1 h2).mono le (PLe.refl _) (by rw [e]; exact g.fr a u e List.not_mem_nil)
end
def lookR (n : Nat) (S1 : Store) (r : Out (D × Store)) : Out (D × Store) := match r with
  | .none => .none
  | .some (d, S2) => if noLst d = true then .some (d, S1) else .none
  | .err x S2 => (match x with
    | .own C => .err (.own C) S1
    | _ => .none)
def mCallR (n : Nat) (F : Fn) (m : M (List D)) : M D := fun e S => bnd (m e S) fun ds S1 => match ds.mapM (conv S1 40) with
  | some ds' => if ds'.length = n then lookR 40 S1 (F ds' []) else .none
  | none => .none
section
variable {K : W.Frag} {Wx : WX}
theorem snd_callR {n : Nat} {F : Fn} {t : TA} {m : M (List D)} (h : SndA K Wx t m) : SndE K Wx (tCallS (spF K n F) (WE Wx) t) (mCallR n F m) := by
  intro σ H Q e G ρ S he rs q
  refine h σ H _ e G ρ S he rs (Aft.imp (Aft.bind q) fun ds S1 G1 H1 ρ1 g1 rs1 k vs rv => ?_)
  cases z0 : ds.mapM (conv S1 40) with
  | none => rw [z0] at k; exact k.elim
  | some ds' =>
    rw [z0] at k
    dsimp only at k
    split at k
    · rename_i hl
      have sub : GLe (grow G1 H1 ρ1) H1 := fun a o e => by
        rcases grow_of e with e | e
        · exact rs1.sub a o e
        · exact e.2
      have rs0 : RS K (grow G1 H1 ρ1) H1 [] [] := ⟨rfl, List.nodup_nil, sub, fun a ha => absurd ha List.not_mem_nil, fun n o a h _ => by simp at h⟩
      refine ⟨ds', _, [], [], rs0, mapM_conv (conv_rep rs1 40) ds ds' vs z0 rv, hl, ?_⟩
      cases z : F ds' [] with
      | none => rw [z] at k; exact k.elim
      | some r =>
        obtain ⟨d, S2⟩ := r
        rw [z] at k
        have k : Aft K (wE K Wx σ) G1 H1 ρ1 (if noLst d = true then .some (d, S1) else .none) (Want K Q) := k
        intro G2 H2 ρ2 g2 rs2 v rv2
        split at k
        · rename_i hn
          obtain ⟨g3, rs3⟩ := back2 rs1 g2 rs2
          refine k _ H2 ρ1 g3 rs3 v (Rep.less rs3 (fun a o e => ?_) d v hn (Rep.mono (grow_le (H := H2) (ρ := ρ2)) (PLe.refl _) _ _ rv2))
          rcases grow_of e with e | e
          · exact rs2.sub a o e
          · exact e.2
        · exact k.elim
      | err x S2 =>
        rw [z] at k
        intro G2 H2 ρ2 g2 rs2 c d xr
        cases x with
        | own C =>
          obtain ⟨g3, rs3⟩ := back2 rs1 g2 rs2
          exact k _ H2 ρ1 g3 rs3 c d xr
        | fld C l => exact k.elim
    · exact k.elim
end
theorem pd_callR {X : Cx} {Wx : WX} {k j n : Nat} {x : Str} {F : Fn} {p pos : Pos} {e : Expr} {es : List Expr} {m : M (List D)} (c : Fcal X.prog X.w X.K X.mg X.base k x n F) (hr : Room j X.A) (hk : k ≤ j) (tk : Takes X Wx) (hg : Gl X x) (ha : PAs X Wx (e :: es) m)
    (hdb : (x == ("__debug__" : Str)) = false := by decide) (he : starEach (e :: es) X.env = (false, eval e X.env) :: starEach es X.env := by rfl) (hpl : (backTo pos (starEach es X.env)).any (·.1) = false := by rfl) : PD X Wx (.Call (.Name x p) (e :: es) [] pos) (mCallR n F m) := by
  obtain ⟨f, fd, ps, ok, hm, kp, b⟩ := c.ex
  obtain ⟨t, h1, h2⟩ := ha
  exact ⟨_, pe_callS ok (hr.mono hk) hg hm kp b (fun σ => passAt tk σ) h1 hdb he hpl, snd_callR h2⟩
end MD
set_option Elab.async false
set_option linter.all false
set_option maxRecDepth 100000
set_option maxHeartbeats 4000000
namespace MD
open PySem PySem.Spec PyProof.Rows L2
open AutoSeq1 (wpAny_loadPart')
/-- once, or nothing to be repeated: the tuple itself -/
theorem rep_same (l : Addr) (items : Array Value) (n : Nat) (dd : Option Addr) (sl : Array (Option Value)) (x : Int) (u : Tok) (c0 : (decide (x < -(2 ^ 63)) || decide (x ≥ 2 ^ 63)) = false) (c1 : (items.isEmpty || x == 1) = true) :
    Meets (Builtin.«tuple.__mul__» ⟨[.ref l, .int x u], []⟩) (fun _ R s => s.heap.get? l = some { cls := .type "tuple", dict := dd, data := .seq items n, slots := sl } ∧ R (.ok (.ret (Value.ref l))) s) :=
  .of_wp fun prog w A R s hh => by
    obtain ⟨hp, gg, d, tk, os⟩ := s
    obtain ⟨hl, hr⟩ := hh
    have f1 := AutoSeq1.idx_int
    wp_walk using wpAny_loadPart' hl
    repeat (first
      | (refine wpAny_ite_false (decide_eq_false (by rw [c0]; exact Bool.false_ne_true)) ?_; wp_walk using wpAny_loadPart' hl)
      | (refine wpAny_ite_true (decide_eq_true c1) ?_; wp_walk using wpAny_loadPart' hl))
    exact ⟨_, rfl, hr⟩
/-- no times: the empty one -/
theorem rep_none (l : Addr) (items : Array Value) (n : Nat) (dd : Option Addr) (sl : Array (Option Value)) (x : Int) (u : Tok) (c0 : (decide (x < -(2 ^ 63)) || decide (x ≥ 2 ^ 63)) = false) (c1 : (items.isEmpty || x == 1) = false) (c2 : (decide (x ≤ 0) || items.isEmpty) = true) :
    Meets (Builtin.«tuple.__mul__» ⟨[.ref l, .int x u], []⟩) (fun _ R s => s.heap.get? l = some { cls := .type "tuple", dict := dd, data := .seq items n, slots := sl } ∧
      R (.ok (.ret (Value.ref s.heap.objs.size))) { s with heap := s.heap.push { cls := Value.type "tuple", data := Data.seq #[] }, toks := s.toks }) :=
  .of_wp fun prog w A R s hh => by
    obtain ⟨hp, gg, d, tk, os⟩ := s
    obtain ⟨hl, hr⟩ := hh
    have f1 := AutoSeq1.idx_int
    wp_walk using wpAny_loadPart' hl
    repeat (first
      | (refine wpAny_ite_false (decide_eq_false (by rw [c0]; exact Bool.false_ne_true)) ?_; wp_walk using wpAny_loadPart' hl)
      | (refine wpAny_ite_false (decide_eq_false (by rw [c1]; exact Bool.false_ne_true)) ?_; wp_walk using wpAny_loadPart' hl)
      | (refine wpAny_ite_true (decide_eq_true c2) ?_; wp_walk using wpAny_loadPart' hl))
    exact ⟨_, rfl, hr⟩
end MD
set_option Elab.async false
set_option linter.all false
set_option maxRecDepth 100000
set_option maxHeartbeats 1000000
/-! operators that serve several kinds; slices; chains -/
namespace MD
open PySem PySem.Spec PyProof.Rows L2

/-! ### + -/
def rAddU (K : W.Frag) : R2 := fun x y H Q => rI0 (fun i j => .int (i + j)) x y H Q ∨ (rCat x y H Q ∨ (rCatA K x y H Q ∨ ∃ i j, x = .str i ∧ y = .str j ∧ i.length + j.length ≤ sizeLine ∧ Q (.str (i ++ j)) H))
theorem op_addU {X : Cx} : OpR X (binaryOp .Add) (rAddU X.K) := op_add.or (op_cat.or (op_catA.or op_add_str))
/-- a list of this run, not the script -/
def runL (S : Store) : D → Option (List D)
  | .lst l => some l
  | .ref n => (match S[n]? with
    | some (.lst l) => some l
    | _ => none)
  | _ => none
theorem runL_rep {K : W.Frag} {G H : Hp} {ρ : List Addr} {S : Store} {x : D} {v : V} {l : List D} (rs : RS K G H ρ S) (rx : Rep K G ρ x v) (h : runL S x = some l) : ∃ a vs, v = .ref a ∧ H a = some (.lst vs) ∧ Reps K G ρ l vs := by
  unfold runL at h
  split at h
  · obtain ⟨a, vs, e, h1, h2⟩ := rx
    rw [← Option.some.inj h]
    exact ⟨a, vs, e, rs.sub _ _ h1, h2⟩
  · rename_i n
    split at h
    · rename_i l0 hn
      obtain ⟨a, e, q⟩ := rx
      obtain ⟨vs, q1, q2⟩ := rs.obj n _ a hn q
      rw [← Option.some.inj h]
      exact ⟨a, vs, e, q1, q2⟩
    · cases h
  · cases h
def gAdd : Store → D → D → Option D := fun S x y => match x, y with
  | .int i, .int j => some (.int (i + j))
  | .str a, .str b => if a.length + b.length ≤ sizeLine then some (.str (a ++ b)) else none
  | .tup l, .tup r => if l.length + r.length ≤ sizeLine then some (.tup (l ++ r)) else none
  | x, y => match runL S x, runL S y with
    | some l, some r => if l.length + r.length ≤ sizeLine then some (.lst (l ++ r)) else none
    | _, _ => none
/-- a new list, tuple, frozen -/
theorem lst_new {K : W.Frag} {G H : Hp} {ρ : List Addr} {S : Store} {l : List D} {vs : List V} {Q : VK} (rs : RS K G H ρ S) (rv : Reps K G ρ l vs) (k : ∀ G' H', Go G H ρ G' H' ρ → RS K G' H' ρ S → ∀ w, Rep K G' ρ (.lst l) w → Q w H') : ∀ p, H p = none → Q (.ref p) (upd H p (.lst vs)) := fun p hp =>
  k _ _ (Go.new hp (rs.none_of hp) _) (rs.new hp _) _ ⟨p, vs, rfl, upd_same, Reps.mono (GLe.upd (rs.none_of hp)) (PLe.refl ρ) _ _ rv⟩
theorem tup_new {K : W.Frag} {G H : Hp} {ρ : List Addr} {S : Store} {l : List D} {vs : List V} {Q : VK} (rs : RS K G H ρ S) (rv : Reps K G ρ l vs) (k : ∀ G' H', Go G H ρ G' H' ρ → RS K G' H' ρ S → ∀ w, Rep K G' ρ (.tup l) w → Q w H') : ∀ p, H p = none → Q (.ref p) (upd H p (.tup vs)) := fun p hp =>
  k _ _ (Go.new hp (rs.none_of hp) _) (rs.new hp _) _ ⟨p, vs, rfl, SqT.of upd_same, Reps.mono (GLe.upd (rs.none_of hp)) (PLe.refl ρ) _ _ rv⟩
theorem ops_addU {K : W.Frag} : OpS K (rAddU K) gAdd := by
  intro G H ρ S x y v u Q rs rx ry d e k
  unfold gAdd at e
  split at e
  · rename_i i j
    have e := Option.some.inj e
    subst e
    have rx : v = .int i := rx
    have ry : u = .int j := ry
    exact .inl ⟨i, j, rx, ry, k G H Go.refl rs _ rfl⟩
  · rename_i a b
    split at e
    · rename_i hz
      have e := Option.some.inj e
      subst e
      have rx : v = .str a := rx
      have ry : u = .str b := ry
      exact .inr (.inr (.inr ⟨a, b, rx, ry, hz, k G H Go.refl rs _ rfl⟩))
    · cases e
  · rename_i l r
    split at e
    · rename_i hz
      have e := Option.some.inj e
      subst e
      have rx0 := rx
      have ry0 := ry
      obtain ⟨a, vs, ev, h1, h2⟩ := rx
      obtain ⟨b, ws, ew, h3, h4⟩ := ry
      subst ev ew
      refine .inr (.inr (.inl ⟨a, b, vs, ws, rfl, rfl, rs.sub.sqt h1, rs.sub.sqt h3, by rw [← h2.length, ← h4.length]; exact hz, fun en => ?_, fun _ en => ?_, fun _ _ => tup_new rs (h2.append h4) k⟩))
      · have el : l = [] := h2.nil_iff.mpr en
        subst el
        exact k G H Go.refl rs _ ry0
      · have el : r = [] := h4.nil_iff.mpr en
        subst el
        rw [List.append_nil] at k
        exact k G H Go.refl rs _ rx0
    · cases e
  · split at e
    · rename_i l r hl hr
      split at e
      · rename_i hz
        have e := Option.some.inj e
        subst e
        obtain ⟨a, vs, ev, h1, h2⟩ := runL_rep rs rx hl
        obtain ⟨b, ws, ew, h3, h4⟩ := runL_rep rs ry hr
        exact .inr (.inl ⟨a, b, vs, ws, ev, ew, h1, h3, by rw [← h2.length, ← h4.length]; exact hz, lst_new rs (h2.append h4) k⟩)
      · cases e
    · cases e

/-! ### * // -/
def cMulX (i j : Int) : Bool := decide ((Builtin.Int.intBits i : Int) + (Builtin.Int.intBits j : Int) ≤ 134217728)
def cDivX (_ j : Int) : Bool := decide (j ≠ 0) && decide (j.natAbs.log2 < 9000)
def rRepU (K : W.Frag) : R2 := fun x y H Q => ∃ l k xs, x = .ref l ∧ y = .int k ∧ SqT K H l xs ∧ -(2 ^ 63) ≤ k ∧ k ≤ 1000 ∧ xs.length ≤ 1000 ∧ (xs = [] ∨ k = 1 → Q (.ref l) H) ∧ (xs ≠ [] → k ≤ 0 → ∀ p, H p = none → Q (.ref p) (upd H p (.tup []))) ∧
  (xs ≠ [] → 2 ≤ k → ∀ p, H p = none → Q (.ref p) (upd H p (.tup (List.replicate k.toNat xs).flatten)))
theorem op_repU {X : Cx} : OpR X (binaryOp .Mult) (rRepU X.K) := by
  intro pins s σ H x y v u Q I rx ry h
  obtain ⟨l, k, xs, rfl, rfl, hT, h0, h1, hz, qs, qn, qm⟩ := h
  by_cases hm : xs ≠ [] ∧ 2 ≤ k
  · exact op_repT pins s σ H _ _ v u Q I rx ry ⟨l, k, xs, rfl, rfl, hT, hm.1, hm.2, h1, hz, qm hm.1 hm.2⟩
  · cases rx
    obtain ⟨t, rfl⟩ := ry
    obtain ⟨its, r, ⟨⟨cls, dd, data, sl⟩, ho, hc, n, hd⟩, hs⟩ := I.tuple hT
    simp only at hc hd
    subst hc hd
    have c0 : (decide (k < -(2 ^ 63)) || decide (k ≥ 2 ^ 63)) = false := by
      rw [decide_eq_false (by omega), decide_eq_false (by omega)]
      rfl
    have fin : ∀ {Q' : Value → Shared → Prop}, wpAny (model X.prog X.w) X.A.in1 (call (.builtin "tuple.__mul__") [.ref l, .int k t]) Q' X.xe s → True := fun _ => trivial
    have emp : its.toArray.isEmpty = decide (xs = []) := by
      cases xs with
      | nil =>
        cases r
        rfl
      | cons a b =>
        cases r
        rfl
    by_cases h : xs = [] ∨ k = 1
    · have c1 : (its.toArray.isEmpty || k == 1) = true := by
        rw [emp, Bool.or_eq_true]
        rcases h with h | h
        · exact .inl (decide_eq_true h)
        · exact .inr (beq_iff_eq.mpr h)
      exact wpAny_binaryOp_repeat_ref (T := "tuple") (U := "int") (by decide) ⟨_, ho, rfl⟩ (fun s' => typeIs_int s' k t) noFill_tuple_mul F.fills_int_mul F.slot_int_rmul repeat_tuple F.slot_int_index.lookup
        (call_meets F.slot_int_rmul (typeIs_int s k t) F.entry_int_rmul (F.args_int_rmul_2 _ _) (int_rmul_tuple k t l its.toArray n dd sl)
          ⟨ho, rfl, ⟨_, ho, rfl⟩, call_meets F.slot_tuple_mul ⟨_, ho, rfl⟩ F.entry_tuple_mul (F.args_tuple_mul_2 _ _) (rep_same l its.toArray n dd sl k t c0 c1) ⟨ho, .ref l, H, I, rfl, qs h⟩⟩)
    · have hne : xs ≠ [] := fun e => h (.inl e)
      have hk1 : k ≠ 1 := fun e => h (.inr e)
      have hk : k ≤ 0 := by
        by_cases h2 : 2 ≤ k
        · exact absurd ⟨hne, h2⟩ hm
        · omega
      have c1 : (its.toArray.isEmpty || k == 1) = false := by
        rw [emp, decide_eq_false hne, Bool.false_or]
        exact beq_eq_false_iff_ne.mpr hk1
      have c2 : (decide (k ≤ 0) || its.toArray.isEmpty) = true := by
        rw [decide_eq_true hk, Bool.true_or]
      refine wpAny_binaryOp_repeat_ref (T := "tuple") (U := "int") (by decide) ⟨_, ho, rfl⟩ (fun s' => typeIs_int s' k t) noFill_tuple_mul F.fills_int_mul F.slot_int_rmul repeat_tuple F.slot_int_index.lookup
        (call_meets F.slot_int_rmul (typeIs_int s k t) F.entry_int_rmul (F.args_int_rmul_2 _ _) (int_rmul_tuple k t l its.toArray n dd sl)
          ⟨ho, rfl, ⟨_, ho, rfl⟩, call_meets F.slot_tuple_mul ⟨_, ho, rfl⟩ F.entry_tuple_mul (F.args_tuple_mul_2 _ _) (rep_none l its.toArray n dd sl k t c0 c1 c2) ⟨ho, ?_⟩⟩)
      refine ⟨.ref s.heap.objs.size, _, I.laid (t' := s.toks) (o := .tup []) (fun b ob q => Heap.get?_push_of_some _ q) (Nat.le_refl _) ?_, rfl, qn hne hk _ (I.hok.fresh (Nat.le_refl _))⟩
      exact ⟨Nat.zero_le _, [], .nil, IsTup.new _ _⟩
def rMulU (K : W.Frag) : R2 := fun x y H Q => rI CMulX (fun i j => .int (i * j)) x y H Q ∨ (rRep x y H Q ∨ rRepU K x y H Q)
theorem op_mulU {X : Cx} : OpR X (binaryOp .Mult) (rMulU X.K) := op_mulX.or (op_rep.or op_repU)
def repD (n : Nat) (l : List D) : List D := (List.replicate n l).flatten
theorem rep_rep {K : W.Frag} {G : Hp} {ρ : List Addr} {l : List D} {vs : List V} (h : Reps K G ρ l vs) : ∀ n, Reps K G ρ (repD n l) (List.replicate n vs).flatten
  | 0 => rfl
  | n + 1 => by
    unfold repD
    rw [List.replicate_succ, List.replicate_succ, List.flatten_cons, List.flatten_cons]
    exact h.append (rep_rep h n)
def gMul : Store → D → D → Option D := fun S x y => match x, y with
  | .int i, .int j => if cMulX i j then some (.int (i * j)) else none
  | .tup l, .int k => if decide (-(2 ^ 63) ≤ k) && decide (k ≤ 1000) && decide (l.length ≤ 1000) then some (.tup (repD k.toNat l)) else none
  | x, .int k => match runL S x with
    | some l => if decide (-(2 ^ 63) ≤ k) && decide (k < 2 ^ 63) && decide (l.length * k.toNat ≤ sizeLine) then some (.lst (repD k.toNat l)) else none
    | none => none
  | _, _ => none
theorem ops_mulU {K : W.Frag} : OpS K (rMulU K) gMul := by
  intro G H ρ S x y v u Q rs rx ry d e k
  unfold gMul at e
  split at e
  · rename_i i j
    split at e
    · rename_i hc
      have e := Option.some.inj e
      subst e
      have rx : v = .int i := rx
      have ry : u = .int j := ry
      have hc : CMulX i j := by
        unfold cMulX at hc
        have := of_decide_eq_true hc
        exact this
      exact .inl ⟨i, j, rx, ry, hc, k G H Go.refl rs _ rfl⟩
    · cases e
  · rename_i l n
    split at e
    · rename_i hc
      rw [Bool.and_eq_true, Bool.and_eq_true] at hc
      obtain ⟨⟨c1, c2⟩, c3⟩ := hc
      have c1 := of_decide_eq_true c1
      have c2 := of_decide_eq_true c2
      have c3 := of_decide_eq_true c3
      have e := Option.some.inj e
      subst e
      have rx0 := rx
      obtain ⟨a, vs, ev, h1, h2⟩ := rx
      subst ev
      have ry : u = .int n := ry
      refine .inr (.inr ⟨a, n, vs, rfl, ry, rs.sub.sqt h1, c1, c2, by rw [← h2.length]; exact c3, fun hs => ?_, fun hne hk => ?_, fun hne hk => tup_new rs (rep_rep h2 n.toNat) k⟩)
      · refine k G H Go.refl rs _ ?_
        rcases hs with hs | hs
        · have el : l = [] := h2.nil_iff.mpr hs
          subst el
          have e0 : repD n.toNat ([] : List D) = [] := by
            unfold repD
            induction n.toNat with
            | zero => rfl
            | succ m ih => rw [List.replicate_succ, List.flatten_cons, ih]; rfl
          rw [e0]
          exact rx0
        · subst hs
          have e0 : repD (1 : Int).toNat l = l := by
            unfold repD
            show (List.replicate 1 l).flatten = l
            rw [List.replicate_succ, List.flatten_cons]
            simp
          rw [e0]
          exact rx0
      · have e0 : n.toNat = 0 := by omega
        rw [e0] at k
        exact tup_new rs (l := []) rfl k
    · cases e
  · rename_i x n _ _
    split at e
    · rename_i l hl
      split at e
      · rename_i hc
        rw [Bool.and_eq_true, Bool.and_eq_true] at hc
        obtain ⟨⟨c1, c2⟩, c3⟩ := hc
        have e := Option.some.inj e
        subst e
        obtain ⟨a, vs, ev, h1, h2⟩ := runL_rep rs rx hl
        have ry : u = .int n := ry
        exact .inr (.inl ⟨a, n, vs, ev, ry, h1, of_decide_eq_true c1, of_decide_eq_true c2, by rw [← h2.length]; exact of_decide_eq_true c3, lst_new rs (rep_rep h2 n.toNat) k⟩)
      · cases e
    · cases e
  · cases e
def CDivX (_ j : Int) : Prop := j ≠ 0 ∧ j.natAbs.log2 < 9000
theorem op_divX {X : Cx} : OpR X (binaryOp .FloorDiv) (rI CDivX fun i j => .int (i.fdiv j)) := opI fun _ _ _ _ _ _ _ hc q => floordiv_int hc.1 q (.inl (PyProof.noPylong_of_log2 hc.2))
abbrev gDiv := gIC cDivX fun i j => .int (i.fdiv j)
theorem ops_divX {K : W.Frag} : OpS K (rI CDivX fun i j => .int (i.fdiv j)) gDiv := ops_I (fun i j h => by
  unfold cDivX at h
  rw [Bool.and_eq_true] at h
  exact ⟨of_decide_eq_true h.1, of_decide_eq_true h.2⟩) fun _ _ _ _ => rfl

/-! ### slices -/
def tO (t : TE) : TO := fun σ H Q => t σ H fun x H1 => ∃ i, x = .int i ∧ Q (some i) H1
def mPart (m : Option (M D)) : M (Option Int) := match m with
  | none => fun _ S => .some (none, S)
  | some m => fun e S => bnd (m e S) fun x S1 => match x with
    | .int i => .some (some i, S1)
    | _ => .none
def POD (X : Cx) (Wx : WX) (e : Option Expr) (m : M (Option Int)) : Prop := ∃ t, PO X e t ∧ ∀ (σ : L2.St) (H : Hp) (Q : Option Int → Hp → Prop) (e : Env) (G : Hp) (ρ : List Addr) (S : Store), EnvR X.K G ρ e σ → RS X.K G H ρ S → Aft X.K (wE X.K Wx σ) G H ρ (m e S) (fun i _ _ H' _ => Q i H') → t σ H Q
theorem pod_none {X : Cx} {Wx : WX} : POD X Wx none (mPart none) := ⟨_, po_none, fun σ H Q e G ρ S he rs q => q G H ρ Go.refl rs⟩
theorem pod_some {X : Cx} {Wx : WX} {e : Expr} {m : M D} (h : PD X Wx e m) : POD X Wx (some e) (mPart (some m)) := by
  obtain ⟨t, h1, h2⟩ := h
  refine ⟨_, po_some h1, fun σ H Q e G ρ S he rs q => ?_⟩
  refine h2 σ H _ e G ρ S he rs (Aft.imp (Aft.bind q) fun x S1 G1 H1 ρ1 g1 rs1 k v rv => ?_)
  split at k
  · rename_i i
    exact ⟨i, rv, k G1 H1 ρ1 Go.refl rs1⟩
  · exact k.elim
def cutD (l : List D) (lo hi : Option Int) : List D := (l.drop (HT.sIx l.length 0 lo)).take (HT.sIx l.length l.length hi - HT.sIx l.length 0 lo)
theorem cut_rep {K : W.Frag} {G : Hp} {ρ : List Addr} {l : List D} {vs : List V} (h : Reps K G ρ l vs) (lo hi : Option Int) : Reps K G ρ (cutD l lo hi) (cutV vs lo hi) := by
  unfold cutD cutV
  rw [h.length]
  exact (h.drop _).take _
def gCut (S : Store) (x : D) (lo hi : Option Int) : Option D := match x with
  | .str s => if s.length ≤ sizeLine then some (.str (cutS s lo hi)) else none
  | x => match itemsOf S x with
    | some (true, l) => some (.lst (cutD l lo hi))
    | some (false, l) => some (.tup (cutD l lo hi))
    | none => none
def rCutU (K : W.Frag) : V → Option Int → Option Int → Hp → VK → Prop := fun x lo hi H Q => rSlL K x lo hi H Q ∨ (rSlA K x lo hi H Q ∨ rSlS x lo hi H Q)
theorem sl_cut {X : Cx} : SlR X (rCutU X.K) := sl_list.or (sl_tupA.or sl_str)
theorem cut_snd {K : W.Frag} {G H : Hp} {ρ : List Addr} {S : Store} {x d : D} {v : V} {lo hi : Option Int} {Q : VK} (rs : RS K G H ρ S) (rx : Rep K G ρ x v) (e : gCut S x lo hi = some d)
    (k : ∀ G' H', Go G H ρ G' H' ρ → RS K G' H' ρ S → ∀ w, Rep K G' ρ d w → Q w H') : rCutU K v lo hi H Q := by
  unfold gCut at e
  split at e
  · rename_i s
    split at e
    · rename_i hz
      have e := Option.some.inj e
      subst e
      have rx : v = .str s := rx
      exact .inr (.inr ⟨s, rx, hz, k G H Go.refl rs _ rfl⟩)
    · cases e
  · split at e
    · rename_i l hi'
      have e := Option.some.inj e
      subst e
      obtain ⟨a, vs, ev, hl, h1, h2⟩ := items_rep rs rx hi'
      exact .inl ⟨a, vs, ev, h1 rfl, lst_new rs (cut_rep hl _ _) k⟩
    · rename_i l hi'
      have e := Option.some.inj e
      subst e
      obtain ⟨a, vs, ev, hl, h1, h2⟩ := items_rep rs rx hi'
      have hk := items_kind hi'
      refine .inr (.inl ⟨a, vs, ev, h2 rfl, fun hw => ?_, fun _ => tup_new rs (cut_rep hl _ _) k⟩)
      cases x with
      | tup l0 =>
        have el : l0 = l := by
          injection hi' with hi'
          injection hi' with _ hi'
        subst el
        have e0 : cutD l0 lo hi = l0 := by
          unfold cutD
          rw [hl.length, hw.1, hw.2, List.drop_zero, Nat.sub_zero, ← hl.length, List.take_length]
        rw [e0] at k
        rw [← ev]
        exact k G H Go.refl rs _ rx
      | _ => cases hk
    · cases e
def mCut (m : M D) (lo hi : M (Option Int)) : M D := fun e S => bnd (m e S) fun x S1 => bnd (lo e S1) fun i S2 => bnd (hi e S2) fun j S3 => fin (gCut S3 x i j) S3
theorem pd_cut {X : Cx} {Wx : WX} {e : Expr} {lo hi : Option Expr} {p2 pos : Pos} {m : M D} {ml mh : M (Option Int)} (h : PD X Wx e m) (hl : POD X Wx lo ml) (hh : POD X Wx hi mh) : PD X Wx (.Subscript e (.Slice lo hi none p2) pos) (mCut m ml mh) := by
  obtain ⟨t, a1, a2⟩ := h
  obtain ⟨tl, b1, b2⟩ := hl
  obtain ⟨th, c1, c2⟩ := hh
  refine ⟨_, pe_slice sl_cut a1 b1 c1, fun σ H Q e G ρ S he rs q => ?_⟩
  refine a2 σ H _ e G ρ S he rs (Aft.imp (Aft.bind q) fun x S1 G1 H1 ρ1 g1 rs1 k v rv => ?_)
  refine b2 σ H1 _ e G1 ρ1 S1 (he.mono g1.gr g1.pl) rs1 (Aft.imp (Aft.bind k) fun i S2 G2 H2 ρ2 g2 rs2 k2 => ?_)
  have g12 := g1.trans g2
  refine c2 σ H2 _ e G2 ρ2 S2 (he.mono g12.gr g12.pl) rs2 (Aft.imp (Aft.bind k2) fun j S3 G3 H3 ρ3 g3 rs3 k3 => ?_)
  obtain ⟨d, ed, k4⟩ := Aft.fin k3
  have g23 := g2.trans g3
  exact cut_snd rs3 (Rep.mono g23.gr g23.pl _ _ rv) ed fun G' H' g rs' w rw' => k4 G' H' ρ3 g rs' w rw'

/-! ### a op1 b op2 c -/
def mChain (g g' : Store → D → D → Option D) (ma mb mc : M D) : M D := fun e S => bnd (ma e S) fun x S1 => bnd (mb e S1) fun y S2 => match g S2 x y with
  | some (.bl true) => bnd (mc e S2) fun z S3 => fin (g' S3 y z) S3
  | some (.bl false) => .some (.bl false, S2)
  | _ => .none
section
variable {X : Cx} {Wx : WX} {a b c : Expr} {ma mb mc : M D} {pos : Pos} {op op' : CmpOp} {r r' : R2} {g g' : Store → D → D → Option D}
theorem snd_chain {K : W.Frag} {ta tb tc : TE} (o : OpS K r g) (o' : OpS K r' g') (ha : SndE K Wx ta ma) (hb : SndE K Wx tb mb) (hc : SndE K Wx tc mc) : SndE K Wx (tChain r r' ta tb tc) (mChain g g' ma mb mc) := by
  intro σ H Q e G ρ S he rs q
  refine ha σ H _ e G ρ S he rs (Aft.imp (Aft.bind q) fun x S1 G1 H1 ρ1 g1 rs1 k v rv => ?_)
  refine hb σ H1 _ e G1 ρ1 S1 (he.mono g1.gr g1.pl) rs1 (Aft.imp (Aft.bind k) fun y S2 G2 H2 ρ2 g2 rs2 k2 u ru => ?_)
  have g12 := g1.trans g2
  have rv2 := Rep.mono g2.gr g2.pl _ _ rv
  cases z : g S2 x y with
  | none => rw [z] at k2; exact k2.elim
  | some d =>
    rw [z] at k2
    cases d with
    | bl kb =>
      refine o G2 H2 ρ2 S2 x y v u _ rs2 rv2 ru _ z fun G3 H3 g3 rs3 w rw' => ⟨kb, rw', ?_⟩
      cases kb with
      | false => exact k2 G3 H3 ρ2 g3 rs3 _ rfl
      | true =>
        have g13 := g12.trans g3
        refine hc σ H3 _ e G3 ρ2 S2 (he.mono g13.gr g13.pl) rs3 (Aft.imp (Aft.bind (Aft.shift k2 g3)) fun t S3 G4 H4 ρ4 g4 rs4 k4 w4 rw4 => ?_)
        obtain ⟨d, ed, k5⟩ := Aft.fin k4
        have g34 := g3.trans g4
        exact o' G4 H4 ρ4 S3 y t u w4 Q rs4 (Rep.mono g34.gr g34.pl _ _ ru) rw4 d ed fun G' H' g rs' w rw' => k5 G' H' ρ4 g rs' w rw'
    | _ => exact k2.elim
theorem pd_chain (ho : OpR X (compareOp op) r) (o : OpS X.K r g) (ho' : OpR X (compareOp op') r') (o' : OpS X.K r' g') (ha : PD X Wx a ma) (hb : PD X Wx b mb) (hc : PD X Wx c mc)
    (hm : lastMarks [op, op'] [b, c] = false := by with_unfolding_all rfl) : PD X Wx (.Compare a [op, op'] [b, c] pos) (mChain g g' ma mb mc) := by
  obtain ⟨t, a1, a2⟩ := ha
  obtain ⟨u, b1, b2⟩ := hb
  obtain ⟨w, c1, c2⟩ := hc
  exact ⟨_, pe_chain ho ho' a1 b1 c1 hm, snd_chain o o' a2 b2 c2⟩
theorem pb_chain (ho : OpR X (compareOp op) r) (o : OpS X.K r g) (ho' : OpR X (compareOp op') r') (o' : OpS X.K r' g') (ha : PD X Wx a ma) (hb : PD X Wx b mb) (hc : PD X Wx c mc)
    (hm : lastMarks [op, op'] [b, c] = false := by with_unfolding_all rfl) : PB X Wx (.Compare a [op, op'] [b, c] pos) (mTest (mChain g g' ma mb mc)) := by
  obtain ⟨t, a1, a2⟩ := ha
  obtain ⟨u, b1, b2⟩ := hb
  obtain ⟨w, c1, c2⟩ := hc
  exact ⟨_, pt_chain ho ho' a1 b1 c1 hm, snd_test (snd_chain o o' a2 b2 c2)⟩
end
end MD
set_option Elab.async false
set_option linter.all false
set_option maxRecDepth 100000
set_option maxHeartbeats 1000000
/-! dict displays, get, loops over a dict's keys, sorted -/
namespace MD
open PySem PySem.Spec PyProof.Rows L2

/-! ### a, b, c = x, y, z -/
def msPar3 (i j l : Nat) (m : M (List D)) : MS := fun e S => bndS e (m e S) fun ds S1 => match ds with
  | [x, y, z] => some (.nx (((e.set i (some x)).set j (some y)).set l (some z)) S1)
  | _ => none
theorem Reps.three_of {K : W.Frag} {G : Hp} {ρ : List Addr} {x y z : D} {vs : List V} (h : Reps K G ρ [x, y, z] vs) : ∃ v u w, vs = [v, u, w] ∧ Rep K G ρ x v ∧ Rep K G ρ y u ∧ Rep K G ρ z w := by
  obtain ⟨v, r, e, h1, h2⟩ := h
  obtain ⟨u, w, e2, h3, h4⟩ := Reps.two_of h2
  exact ⟨v, u, w, by rw [e, e2], h1, h3, h4⟩
theorem psd_par3 {X : Cx} {Wx : WX} (i j l : Nat) {x y z : Str} {a b c : Expr} {m : M (List D)} {px py pz pt pos : Pos} {kt k2 : Nat} {pt2 : Pos} (hc : X.calm = true) (hN : X.N.Nodup) (ha : PAs X Wx [a, b, c] m) (hi : X.N[i]? = some x := by rfl) (hj : X.N[j]? = some y := by rfl) (hl : X.N[l]? = some z := by rfl)
    (hij : i ≠ j := by decide) (hil : i ≠ l := by decide) (hjl : j ≠ l := by decide)
    (hx : X.env.scope.names.lookup x = some .local := by rfl) (hy : X.env.scope.names.lookup y = some .local := by rfl) (hz : X.env.scope.names.lookup z = some .local := by rfl)
    (hw : swappedStores [.Tuple [.Name x px, .Name y py, .Name z pz] kt pt] (.Tuple [a, b, c] k2 pt2) X.env = pure (some [x, y, z]) := by rfl)
    (hs : swapsWithSole [.Tuple [.Name x px, .Name y py, .Name z pz] kt pt] (.Tuple [a, b, c] k2 pt2) pos.line X.env = pure false := by rfl) : PSD X Wx (.Assign [.Tuple [.Name x px, .Name y py, .Name z pz] kt pt] (.Tuple [a, b, c] k2 pt2) pos) (msPar3 i j l m) := by
  obtain ⟨t, h1, h2⟩ := ha
  refine ⟨_, ps_par3 hc hN hi hj hl hij hil hjl hx hy hz h1 hw hs, fun σ H D e G ρ S he rs q => ?_⟩
  refine h2 σ H _ e G ρ S he rs (Aft.imp (AftS.bnd q he) fun ds S1 G1 H1 ρ1 g1 rs1 k vs rv => ?_)
  split at k
  · rename_i p q r
    obtain ⟨v, u, w, e0, r1, r2, r3⟩ := rv.three_of
    subst e0
    exact ⟨v, u, w, rfl, k G1 H1 ρ1 _ Go.refl rs1 ((((he.mono g1.gr g1.pl).set i r1).set j r2).set l r3)⟩
  · exact k.elim

/-! ### {k: v, ..} -/
abbrev PRep (K : W.Frag) (G : Hp) (ρ : List Addr) : List (D × D) → List (V × V) → Prop := Paired fun p q => Rep K G ρ p.1 q.1 ∧ Rep K G ρ p.2 q.2
theorem PRep.mono {K : W.Frag} {G G' : Hp} {ρ ρ' : List Addr} (g : GLe G G') (p : PLe ρ ρ') {l : List (D × D)} {m : List (V × V)} (h : PRep K G ρ l m) : PRep K G' ρ' l m := Paired.mapP h fun _ _ q => ⟨Rep.mono g p _ _ q.1, Rep.mono g p _ _ q.2⟩
def PPsD (X : Cx) (Wx : WX) (pos : Pos) (keys : List (Option Expr)) (values : List Expr) (m : M (List (D × D))) : Prop := ∃ trs, PPs X pos keys values trs ∧
  ∀ (σ : L2.St) (H : Hp) (Q : List (V × V) → Hp → Prop) (e : Env) (G : Hp) (ρ : List Addr) (S : Store), EnvR X.K G ρ e σ → RS X.K G H ρ S → Aft X.K (wE X.K Wx σ) G H ρ (m e S) (fun ps _ G' H' ρ' => ∀ vs, PRep X.K G' ρ' ps vs → Q vs H') → tPairs trs σ H Q
def mPNil : M (List (D × D)) := fun _ S => .some ([], S)
def mPCons (mk mv : M D) (mr : M (List (D × D))) : M (List (D × D)) := fun e S => bnd (mk e S) fun k S1 => bnd (mv e S1) fun v S2 => bnd (mr e S2) fun l S3 => .some ((k, v) :: l, S3)
section
variable {X : Cx} {Wx : WX} {pos : Pos}
theorem ppsd_nil : PPsD X Wx pos [] [] mPNil := ⟨[], pps_nil, fun σ H Q e G ρ S he rs q => q G H ρ Go.refl rs [] .nil⟩
theorem ppsd_cons {k v : Expr} {ks : List (Option Expr)} {vs : List Expr} {mk mv : M D} {mr : M (List (D × D))} (hk : PD X Wx k mk) (hv : PD X Wx v mv) (hr : PPsD X Wx pos ks vs mr) : PPsD X Wx pos (some k :: ks) (v :: vs) (mPCons mk mv mr) := by
  obtain ⟨tk, a1, a2⟩ := hk
  obtain ⟨tv, b1, b2⟩ := hv
  obtain ⟨tr, c1, c2⟩ := hr
  refine ⟨_, pps_cons a1 b1 c1, fun σ H Q e G ρ S he rs q => ?_⟩
  refine a2 σ H _ e G ρ S he rs (Aft.imp (Aft.bind q) fun x S1 G1 H1 ρ1 g1 rs1 k1 kv rk => ?_)
  refine b2 σ H1 _ e G1 ρ1 S1 (he.mono g1.gr g1.pl) rs1 (Aft.imp (Aft.bind k1) fun y S2 G2 H2 ρ2 g2 rs2 k2 vv rv => ?_)
  have g12 := g1.trans g2
  refine c2 σ H2 _ e G2 ρ2 S2 (he.mono g12.gr g12.pl) rs2 (Aft.imp (Aft.bind k2) fun l S3 G3 H3 ρ3 g3 rs3 k3 ps rp => ?_)
  have g23 := g2.trans g3
  exact k3 G3 H3 ρ3 Go.refl rs3 _ (.cons ⟨Rep.mono g23.gr g23.pl _ _ rk, Rep.mono g3.gr g3.pl _ _ rv⟩ rp)
def keysOf : List (D × D) → Option (List (Key × D))
  | [] => some []
  | (k, v) :: r => match keyOf k, keysOf r with
    | some k, some l => some ((k, v) :: l)
    | _, _ => none
theorem keysOf_rep {K : W.Frag} {G : Hp} {ρ : List Addr} : ∀ {ps : List (D × D)} {vs : List (V × V)} {l : List (Key × D)}, PRep K G ρ ps vs → keysOf ps = some l → ∃ kvs : List (Key × V), vs = kvs.map (fun kv => (kV kv.1, kv.2)) ∧ KRep K G ρ l kvs ∧ kvs.length = l.length
  | [], vs, l, h, e => by
    have e := Option.some.inj e
    subst e
    cases h
    exact ⟨[], rfl, .nil, rfl⟩
  | (k, v) :: r, vs, l, h, e => by
    unfold keysOf at e
    cases h with
    | @cons p q ps qs hp t =>
      obtain ⟨q1, q2⟩ := q
      split at e
      · rename_i key l0 hk hl
        have e := Option.some.inj e
        subst e
        obtain ⟨kvs, e1, e2, e3⟩ := keysOf_rep t hl
        refine ⟨(key, q2) :: kvs, ?_, .cons ⟨rfl, hp.2⟩ e2, by rw [List.length_cons, List.length_cons, e3]⟩
        rw [List.map_cons, ← e1, ← keyOf_rep hp.1 hk]
      · cases e
def mDisp (m : M (List (D × D))) : M D := fun e S => bnd (m e S) fun ps S1 => match keysOf ps with
  | some l => if l.length ≤ 15 then .some (.ref S1.length, S1 ++ [.dic (mergeD [] l)]) else .none
  | none => .none
theorem pd_disp {keys : List (Option Expr)} {values : List Expr} {m : M (List (D × D))} (h : PPsD X Wx pos keys values m) (hall : keys.all (·.isSome) = true := by rfl) (hl : keys.length = values.length := by rfl) (h0 : keys ≠ [] := by intro z; cases z)
    (h15 : keys.length ≤ 15 := by decide) : PD X Wx (.Dict keys values pos) (mDisp m) := by
  obtain ⟨trs, a1, a2⟩ := h
  refine ⟨_, pe_disp a1 hall hl h0 h15, fun σ H Q e G ρ S he rs q p hp => ?_⟩
  refine a2 σ _ _ e G ρ S he (rs.hide hp _) ?_
  unfold mDisp at q
  cases z : m e S with
  | none => rw [z] at q; exact q.elim
  | err x S1 =>
    rw [z] at q
    exact fun G1 H1 ρ1 g1 rs1 => q G1 H1 ρ1 ((Go.hide hp _).trans g1) rs1
  | some r =>
    obtain ⟨ps, S1⟩ := r
    rw [z] at q
    intro G1 H1 ρ1 g1 rs1 vs rv
    obtain ⟨o1, o2, o3⟩ := g1.own_at rs hp
    have k := Aft.shift q (g1.era hp)
    have k : Aft X.K (wE X.K Wx σ) G1 (era H1 p) ρ1 (match keysOf ps with
      | some l => if l.length ≤ 15 then .some (.ref S1.length, S1 ++ [.dic (mergeD [] l)]) else .none
      | none => .none) (Want X.K Q) := k
    cases zk : keysOf ps with
    | none => rw [zk] at k; exact k.elim
    | some l =>
      rw [zk] at k
      dsimp only at k
      split at k
      · rename_i hl15
        obtain ⟨kvs, ev, kr, ke⟩ := keysOf_rep rv zk
        refine ⟨o1, kvs, ev, by rw [ke]; exact hl15, ?_⟩
        have rs2 := rs1.era o3 o2
        have rs3 := rs2.own (era_same (H := H1) (p := p)) (u := .dK (mergeK [] kvs)) (o := .dic (mergeD [] l)) ⟨_, upd_same, KRep.mono (GLe.refl _) (PLe.app _ _) (kr.merge .nil)⟩
        have k2 := k G1 _ (ρ1 ++ [p]) (Go.own era_same _) rs3 (.ref p) ⟨p, rfl, by rw [← rs1.len, List.getElem?_append_right (Nat.le_refl _), Nat.sub_self]; rfl⟩
        rw [upd_era'] at k2
        exact k2
      · exact k.elim
theorem pd_disp0 : PD X Wx (.Dict [] [] pos) (fun _ S => .some (.ref S.length, S ++ [.dic []])) := by
  refine ⟨_, pe_dnewK, fun σ H Q e G ρ S he rs q p hp => ?_⟩
  exact q G _ (ρ ++ [p]) (Go.own hp _) (rs.own hp (o := .dic []) ⟨[], upd_same, .nil⟩) (.ref p) ⟨p, rfl, by rw [← rs.len, List.getElem?_append_right (Nat.le_refl _), Nat.sub_self]; rfl⟩

/-! ### d.get(k), d.get(k, x) -/
def gGet (S : Store) (x y z : D) : Option D := match dicOf S x, keyOf y with
  | some l, some k => some (((l.find? fun p => decide (p.1 = k)).map (·.2)).getD z)
  | _, _ => none
def mGet1 (ma mk : M D) : M D := fun e S => bnd (ma e S) fun x S1 => if (dicOf S1 x).isSome = true then bnd (mk e S1) fun y S2 => fin (gGet S2 x y .non) S2 else .none
def mGet2 (ma mk mz : M D) : M D := fun e S => bnd (ma e S) fun x S1 => if (dicOf S1 x).isSome = true then bnd (mk e S1) fun y S2 => bnd (mz e S2) fun z S3 => fin (gGet S3 x y z) S3 else .none
theorem get_rep {K : W.Frag} {G H : Hp} {ρ : List Addr} {S : Store} {x y z d : D} {a : Addr} {u t : V} (rs : RS K G H ρ S) (rx : Rep K G ρ x (.ref a)) (ry : Rep K G ρ y u) (rz : Rep K G ρ z t) (h : gGet S x y z = some d) : ∃ o, DGet H a u o ∧ Rep K G ρ d (o.getD t) := by
  unfold gGet at h
  split at h
  · rename_i l k hl hk
    obtain ⟨a', kvs, e, _, h1, h2⟩ := dicOf_rep rs rx hl
    have e : a = a' := V.ref.inj e
    subst e
    have q := h2.valV k
    have h := Option.some.inj h
    refine ⟨valV kvs k, .inl ⟨kvs, k, h1, keyOf_rep ry hk, rfl⟩, ?_⟩
    cases w : l.find? (fun p => decide (p.1 = k)) with
    | none =>
      rw [w] at h q
      have h : z = d := h
      rw [← h, q]
      exact rz
    | some p =>
      rw [w] at h q
      obtain ⟨v, q1, q2⟩ := q
      have h : p.2 = d := h
      rw [← h, q1]
      exact q2
  · cases h
theorem isD_rep {K : W.Frag} {G H : Hp} {ρ : List Addr} {S : Store} {x : D} {v : V} (rs : RS K G H ρ S) (rx : Rep K G ρ x v) (h : (dicOf S x).isSome = true) : ∃ a, v = .ref a ∧ IsD H a := by
  obtain ⟨l, hl⟩ := Option.isSome_iff_exists.mp h
  obtain ⟨a, kvs, e, _, h1, _⟩ := dicOf_rep rs rx hl
  exact ⟨a, e, .inl ⟨kvs, h1⟩⟩
theorem pd_get1 {o e : Expr} {apos cpos : Pos} {ma mk : M D} (hu : X.A.units + 1 < cLine) (ho : PD X Wx o ma) (he : PD X Wx e mk) (m : M1 X o "get" apos e cpos := by exact ⟨by rfl, by rfl, by rfl, by rfl⟩) : PD X Wx (.Call (.Attribute o "get" apos) [e] [] cpos) (mGet1 ma mk) := by
  obtain ⟨t, a1, a2⟩ := ho
  obtain ⟨u, b1, b2⟩ := he
  refine ⟨_, pe_dget1 hu a1 b1 m, fun σ H Q e G ρ S he rs q => ?_⟩
  refine a2 σ H _ e G ρ S he rs (Aft.imp (Aft.bind q) fun x S1 G1 H1 ρ1 g1 rs1 k v rv => ?_)
  split at k
  · rename_i hd
    obtain ⟨a, ev, hD⟩ := isD_rep rs1 rv hd
    refine ⟨a, ev, hD, b2 σ H1 _ e G1 ρ1 S1 (he.mono g1.gr g1.pl) rs1 (Aft.imp (Aft.bind k) fun y S2 G2 H2 ρ2 g2 rs2 k2 w rw' => ?_)⟩
    obtain ⟨d, ed, k3⟩ := Aft.fin k2
    rw [ev] at rv
    obtain ⟨o, h1, h2⟩ := get_rep (z := .non) (t := .non) rs2 (Rep.mono g2.gr g2.pl _ _ rv) rw' (show Rep X.K G2 ρ2 .non .non from rfl) ed
    exact ⟨o, h1, k3 G2 H2 ρ2 Go.refl rs2 _ h2⟩
  · exact k.elim
theorem pd_get2 {o e f : Expr} {apos cpos : Pos} {ma mk mz : M D} (hu : X.A.units + 1 < cLine) (ho : PD X Wx o ma) (he : PD X Wx e mk) (hf : PD X Wx f mz) (m : M2 X o "get" apos e f cpos := by exact ⟨by rfl, by rfl, by rfl, by rfl⟩) : PD X Wx (.Call (.Attribute o "get" apos) [e, f] [] cpos) (mGet2 ma mk mz) := by
  obtain ⟨t, a1, a2⟩ := ho
  obtain ⟨u, b1, b2⟩ := he
  obtain ⟨w, c1, c2⟩ := hf
  refine ⟨_, pe_dget2 hu a1 b1 c1 m, fun σ H Q e G ρ S he rs q => ?_⟩
  refine a2 σ H _ e G ρ S he rs (Aft.imp (Aft.bind q) fun x S1 G1 H1 ρ1 g1 rs1 k v rv => ?_)
  split at k
  · rename_i hd
    obtain ⟨a, ev, hD⟩ := isD_rep rs1 rv hd
    refine ⟨a, ev, hD, b2 σ H1 _ e G1 ρ1 S1 (he.mono g1.gr g1.pl) rs1 (Aft.imp (Aft.bind k) fun y S2 G2 H2 ρ2 g2 rs2 k2 w rw' => ?_)⟩
    have g12 := g1.trans g2
    refine c2 σ H2 _ e G2 ρ2 S2 (he.mono g12.gr g12.pl) rs2 (Aft.imp (Aft.bind k2) fun z S3 G3 H3 ρ3 g3 rs3 k3 t rt => ?_)
    obtain ⟨d, ed, k4⟩ := Aft.fin k3
    rw [ev] at rv
    have g23 := g2.trans g3
    obtain ⟨o, h1, h2⟩ := get_rep rs3 (Rep.mono g23.gr g23.pl _ _ rv) (Rep.mono g3.gr g3.pl _ _ rw') rt ed
    exact ⟨o, h1, k4 G3 H3 ρ3 Go.refl rs3 _ h2⟩
  · exact k.elim
end

/-! ### for k in d (a name's dict), which is locked meanwhile -/
def keyD : Key → D
  | .inl i => .int i
  | .inr s => .str s
theorem keyD_rep {K : W.Frag} {G : Hp} {ρ : List Addr} : ∀ k : Key, Rep K G ρ (keyD k) (kV k)
  | .inl _ => rfl
  | .inr _ => rfl
def keyNow (n : Nat) (i : Nat) (S : Store) : Option (Option D) := match S[n]? with
  | some (.dlk l) => if l.length < i then none else some (l[i]?.map fun p => keyD p.1)
  | _ => none
theorem gives_keys {K : W.Frag} {G0 H0 : Hp} {ρ0 : List Addr} {n : Nat} {d : Addr} {o : Obj} {kvs : List (Key × V)} (hn : ρ0[n]? = some d) (hd : H0 d = some (.frz o (.dK kvs))) : Gives K (Itk d o kvs) (.dyn (keyNow n)) G0 H0 ρ0 := by
  have key : ∀ {G H : Hp} {ρ : List Addr} {S : Store} {l : List (Key × D)}, RS K G H ρ S → Go G0 H0 ρ0 G H ρ → S[n]? = some (.dlk l) → H d = some (.frz o (.dK kvs)) ∧ KRep K G ρ l kvs := by
    intro G H ρ S l rs g hl
    have h1 := g.fz d o _ hd
    obtain ⟨kvs', ⟨o', h2⟩, h3⟩ := rs.obj n _ d hl (g.pl n d hn)
    rw [h1] at h2
    injection h2 with h2
    injection h2 with h4 h5
    injection h5 with h5
    rw [← h5] at h3
    exact ⟨h1, h3⟩
  refine ⟨fun i x G H ρ S h rs g => ?_, fun i G H ρ S h rs g => ?_, fun i x G H ρ S v H' h rs g hy => ?_⟩
  · have h : keyNow n i S = some (some x) := h
    unfold keyNow at h
    split at h
    · rename_i l hl
      obtain ⟨h1, h2⟩ := key rs g hl
      split at h
      · cases h
      · have h := Option.some.inj h
        cases z : l[i]? with
        | none => rw [z] at h; cases h
        | some p => exact ⟨h1, by rw [← h2.length]; exact (List.getElem?_eq_some_iff.mp z).1⟩
    · cases h
  · have h : keyNow n i S = some none := h
    unfold keyNow at h
    split at h
    · rename_i l hl
      obtain ⟨h1, h2⟩ := key rs g hl
      split at h
      · cases h
      · have h := Option.some.inj h
        cases z : l[i]? with
        | none => exact ⟨h1, by rw [← h2.length]; exact List.getElem?_eq_none_iff.mp z⟩
        | some p => rw [z] at h; cases h
    · cases h
  · have h : keyNow n i S = some (some x) := h
    unfold keyNow at h
    split at h
    · rename_i l hl
      obtain ⟨h1, h2⟩ := key rs g hl
      split at h
      · cases h
      · have h := Option.some.inj h
        cases z : l[i]? with
        | none => rw [z] at h; cases h
        | some p =>
          rw [z] at h
          have h : keyD p.1 = x := Option.some.inj h
          obtain ⟨rfl, k, w, hk, rfl⟩ := hy
          refine ⟨G, Go.refl, rs, ?_⟩
          have e : p.1 = k := by
            have : ∀ {l : List (Key × D)} {m : List (Key × V)} (_ : KRep K G ρ l m) (i : Nat) (p : Key × D) (q : Key × V), l[i]? = some p → m[i]? = some q → p.1 = q.1 := by
              intro l m h
              induction h with
              | nil => intro i p q e; cases e
              | cons hp t ih =>
                intro i p q e1 e2
                cases i with
                | zero =>
                  have e1 := Option.some.inj e1
                  have e2 := Option.some.inj e2
                  rw [← e1, ← e2]
                  exact hp.1
                | succ i => exact ih i p q (by simpa using e1) (by simpa using e2)
            exact this h2 i p (k, w) z hk
          rw [← h, e]
          exact keyD_rep k
    · cases h
def unlk (n : Nat) (S : Store) : Option Store := match S[n]? with
  | some (.dlk l) => some (S.set n (.dic l))
  | _ => none
def unlkR (n : Nat) : Option SR → Option SR
  | some (.nx e S) => (unlk n S).map (.nx e)
  | some (.ct e S) => (unlk n S).map (.ct e)
  | some (.bk e S) => (unlk n S).map (.bk e)
  | some (.rt d S) => (unlk n S).map (.rt d)
  | some (.ex x e S) => some (.ex x e S)
  | none => none
def msForK (k : Nat) (i : Nat) (tg : Tg) (b : MS) : MS := fun e S => match e[i]? with
  | some (some (.ref n)) => (match S[n]? with
    | some (.dic l) => unlkR n (forD (keyNow n) tg b k 0 e (S.set n (.dlk l)))
    | _ => none)
  | _ => none
theorem psd_forK {X : Cx} {Wx : WX} {tg : Expr} {body : List Stmt} {x : Str} {px pos : Pos} {g : Tg} {sl : List Nat} {b : MS} (k i : Nat) (hp : PassesOwn (model X.prog X.w) X.A X.env X.xe) (hc : X.calm = true) (hg : PGD X tg g sl) (hb : PBl X Wx body b)
    (hN : X.N[i]? = some x := by rfl) (hv : Vis X.env.scope x := by first | exact Or.inl rfl | exact Or.inr (Or.inl rfl) | exact Or.inr (Or.inr rfl)) (hd : (x == ("__debug__" : Str)) = false := by decide) (hcd : (x == ("__classdict__" : Str)) = false := by decide)
    (hs : ∀ y, foldedSetIterable (.Name x px) X.env y = pure y := by intro _; rfl) : PSD X Wx (.For tg (.Name x px) body [] pos) (msForK k i g b) := by
  obtain ⟨t, h3, h4⟩ := hg
  obtain ⟨u, h5, h6⟩ := hb
  have hfor : SndS X.K Wx (tFor (iKeys (tVar i)) t u) (fun e S => match e[i]? with
    | some (some (.ref n)) => (match S[n]? with
      | some (.dlk _) => forD (keyNow n) g b k 0 e S
      | _ => none)
    | _ => none) := by
    have hi : SndI X.K Wx (iKeys (tVar i)) (fun e S => match e[i]? with
      | some (some (.ref n)) => (match S[n]? with
        | some (.dlk _) => .some (.dyn (keyNow n), S)
        | _ => .none)
      | _ => .none) := by
      intro σ H R e G ρ S he rs q
      dsimp only at q
      split at q
      · rename_i n hn
        split at q
        · rename_i l hl
          obtain ⟨v, h1, h2⟩ := he.sl i _ hn
          obtain ⟨a, ea, ha⟩ := h2
          obtain ⟨kvs, ⟨o, h7⟩, _⟩ := rs.obj n _ a hl ha
          rw [ea] at h1
          exact ⟨.ref a, h1, a, o, rfl, .inl ⟨kvs, h7, q G H ρ Go.refl rs _ (gives_keys ha h7)⟩⟩
        · exact q.elim
      · exact q.elim
    have := sndS_for k hi h4 h6
    intro σ H D e G ρ S he rs q
    refine this σ H D e G ρ S he rs ?_
    unfold msFor
    dsimp only at q
    split at q
    · rename_i n hn
      split at q
      · rename_i l hl
        dsimp only
        rw [hn]
        dsimp only
        rw [hl]
        exact q
      · exact q.elim
    · exact q.elim
  refine ⟨_, ps_lock (ps_for hp hc (pi_keys (pe_var hN hv hd hcd)) h3 h5 hs), fun σ H D e G ρ S he rs q => ?_⟩
  unfold msForK at q
  split at q
  · rename_i n hn
    split at q
    · rename_i l hl
      obtain ⟨v, h1, h2⟩ := he.sl i _ hn
      obtain ⟨a, ea, ha⟩ := h2
      obtain ⟨kvs, h7, h8⟩ := rs.obj n _ a hl ha
      have hln : n < S.length := (List.getElem?_eq_some_iff.mp hl).1
      refine ⟨a, .dK kvs, h7, trivial, fun od => ?_⟩
      have gl : Go G H ρ G (upd H a (.frz od (.dK kvs))) ρ := Go.put (List.mem_of_getElem? ha) (fun o u z => by rw [h7] at z; cases z) _
      have rsl : RS X.K G (upd H a (.frz od (.dK kvs))) ρ (S.set n (.dlk l)) := rs.put ha (o := .dlk l) ⟨kvs, ⟨od, upd_same⟩, h8⟩
      refine hfor σ _ _ e G ρ _ he rsl ?_
      dsimp only
      rw [hn]
      dsimp only
      rw [List.getElem?_set_self hln]
      dsimp only
      -- the end: unlocked
      have un : ∀ {G' H' : Hp} {ρ' : List Addr} {S' S2 : Store}, Go G (upd H a (.frz od (.dK kvs))) ρ G' H' ρ' → RS X.K G' H' ρ' S' → unlk n S' = some S2 → H' a = some (.frz od (.dK kvs)) ∧ Go G H ρ G' (upd H' a (.dK kvs)) ρ' ∧ RS X.K G' (upd H' a (.dK kvs)) ρ' S2 := by
        intro G' H' ρ' S' S2 g' rs' hu
        have e1 := g'.fz a od _ upd_same
        unfold unlk at hu
        split at hu
        · rename_i l' hl'
          have hu := Option.some.inj hu
          subst hu
          have ha' := g'.pl n a ha
          obtain ⟨kvs', ⟨o', r1⟩, r2⟩ := rs'.obj n _ a hl' ha'
          rw [e1] at r1
          injection r1 with r1
          injection r1 with _ r1
          injection r1 with r1
          rw [← r1] at r2
          have ma := List.mem_of_getElem? ha
          refine ⟨e1, ⟨g'.gr, g'.pl, fun b hb => ?_, fun b o eb hb => ?_, fun b o eb hb hgb => ?_, fun b eb => ?_, fun b o u eb => ?_⟩, rs'.put ha' (o := .dic l') ⟨kvs, upd_same, r2⟩⟩
          · rcases g'.nw b hb with z | z
            · exact .inl z
            · by_cases hba : b = a
              · rw [hba, upd_same] at z; cases z
              · rw [upd_ne hba] at z; exact .inr z
          · have hba : b ≠ a := fun z => hb (by rw [z]; exact ma)
            rw [upd_ne hba]
            exact g'.fr b o (by rw [upd_ne hba]; exact eb) hb
          · have hba : b ≠ a := fun z => hb (by rw [z]; exact ma)
            exact g'.hid b o (by rw [upd_ne hba]; exact eb) hb hgb
          · by_cases hba : b = a
            · rw [hba, upd_same] at eb; cases eb
            · rw [upd_ne hba] at eb
              have := g'.tr b eb
              rw [upd_ne hba] at this
              exact this
          · have hba : b ≠ a := fun z => by rw [z, h7] at eb; cases eb
            rw [upd_ne hba]
            exact g'.fz b o u (by rw [upd_ne hba]; exact eb)
        · cases hu
      cases z : forD (keyNow n) g b k 0 e (S.set n (.dlk l)) with
      | none => rw [z] at q; exact q.elim
      | some r =>
        rw [z] at q
        cases r with
        | nx e' S' =>
          cases zu : unlk n S' with
          | none => simp only [unlkR, zu, Option.map_none] at q; exact q.elim
          | some S2 =>
            simp only [unlkR, zu, Option.map_some] at q
            intro G' H' ρ' σ' g' rs' he'
            obtain ⟨u1, u2, u3⟩ := un g' rs' zu
            exact ⟨u1, q G' _ ρ' σ' u2 u3 he'⟩
        | ct e' S' =>
          cases zu : unlk n S' with
          | none => simp only [unlkR, zu, Option.map_none] at q; exact q.elim
          | some S2 =>
            simp only [unlkR, zu, Option.map_some] at q
            intro G' H' ρ' σ' g' rs' he'
            obtain ⟨u1, u2, u3⟩ := un g' rs' zu
            exact ⟨u1, q G' _ ρ' σ' u2 u3 he'⟩
        | bk e' S' =>
          cases zu : unlk n S' with
          | none => simp only [unlkR, zu, Option.map_none] at q; exact q.elim
          | some S2 =>
            simp only [unlkR, zu, Option.map_some] at q
            intro G' H' ρ' σ' g' rs' he'
            obtain ⟨u1, u2, u3⟩ := un g' rs' zu
            exact ⟨u1, q G' _ ρ' σ' u2 u3 he'⟩
        | rt d S' =>
          cases zu : unlk n S' with
          | none => simp only [unlkR, zu, Option.map_none] at q; exact q.elim
          | some S2 =>
            simp only [unlkR, zu, Option.map_some] at q
            intro G' H' ρ' v g' rs' rv
            obtain ⟨u1, u2, u3⟩ := un g' rs' zu
            exact ⟨u1, q G' _ ρ' v u2 u3 rv⟩
        | ex xx e' S' =>
          intro G' H' ρ' σ' c d' g' rs' he' xr
          exact q G' H' ρ' σ' c d' (gl.trans g') rs' he' xr
    · exact q.elim
  · exact q.elim
end MD
set_option Elab.async false
set_option linter.all false
set_option maxRecDepth 100000
set_option maxHeartbeats 1000000
/-! small things for printed texts -/
namespace MD
open PySem PySem.Spec PyProof.Rows L2

theorem _root_.L2.Room.u65 {k : Nat} {A : Around} (r : Room k A) : A.units + 65 < cLine := by
  have := r.un
  omega
theorem _root_.L2.Room.u64 {k : Nat} {A : Around} (r : Room k A) : A.units + 64 < cLine := r.units
theorem _root_.L2.Room.u1 {k : Nat} {A : Around} (r : Room k A) : A.units + 1 < cLine := by
  have := r.un
  omega
/-- a number that the module keeps under a name -/
structure Cst (K : PySem.W.Frag) (mg : Str → Option Value) (x : Str) (d : D) : Prop where
  ex : ∃ i t, d = .int i ∧ mg x = some (.int i t)
theorem Cst.pd {X : Cx} {Wx : WX} {x : Str} {d : D} {pos : Pos} (c : Cst X.K X.mg x d) (hg : Gl X x) (hd : (x == ("__debug__" : Str)) = false := by decide) : PD X Wx (.Name x pos) (mC d) := by
  obtain ⟨i, t, e, hm⟩ := c.ex
  subst e
  exact pd_glob (v := .int i) hg hm ⟨t, rfl⟩ (fun _ _ => rfl) hd
section
variable {X : Cx} {Wx : WX} {y : Str} {py : Pos} {elt tg iter : Expr} {ifs : List Expr} {scope : Scope} {own : List (Str × Nat)} {pos spos : Pos} {mi : M Src} {g : Tg} {sl : List Nat} {mt : M Bool} {me : M D}
theorem psd_setLcF (i : Nat) (n : Nat) (hc : X.calm = true) (hN : X.N.Nodup) (hi : PID X Wx tg iter mi) (ok : BlkOk X.N X.env.scope scope own)
    (hg : ∀ (s : Shared) (H : Hp) (C : Addr) (cl : List (Str × Addr)) (fp : List Addr), PGD (X.blk s H scope (compEnvC scope cl C X.env) fp) tg g sl)
    (ht : ∀ (s : Shared) (H : Hp) (C : Addr) (cl : List (Str × Addr)) (fp : List Addr), PTsD (X.blk s H scope (compEnvC scope cl C X.env) fp) W0 ifs mt)
    (he : ∀ (s : Shared) (H : Hp) (C : Addr) (cl : List (Str × Addr)) (fp : List Addr), PD (X.blk s H scope (compEnvC scope cl C X.env) fp) W0 elt me)
    (hsw : swapsWith (.ListComp elt [⟨tg, iter, ifs, 0⟩] scope pos) (some (.Name y py)) spos.line X.env = pure true) (hy : X.N[i]? = some y := by rfl) (hyl : X.env.scope.names.lookup y = some .local := by rfl)
    (hsl : ∀ i ∈ sl, i ∈ own.map (·.2) := by decide) (hs : ∀ x, foldedSetIterable iter X.env x = pure x := by intro _; rfl) :
    PSD X Wx (.Assign [.Name y py] (.ListComp elt [⟨tg, iter, ifs, 0⟩] scope pos) spos) (msAsg (mFrz (mLc n (own.map (·.2)) mi g mt me)) (tgName i)) := psd_setLc i n false hc hN hi ok hg ht he hsw hy hyl hsl hs
theorem psd_setLcN (i : Nat) (n : Nat) (hc : X.calm = true) (hN : X.N.Nodup) (hi : PID X Wx tg iter mi) (ok : BlkOk X.N X.env.scope scope own)
    (hg : ∀ (s : Shared) (H : Hp) (C : Addr) (cl : List (Str × Addr)) (fp : List Addr), PGD (X.blk s H scope (compEnvC scope cl C X.env) fp) tg g sl)
    (ht : ∀ (s : Shared) (H : Hp) (C : Addr) (cl : List (Str × Addr)) (fp : List Addr), PTsD (X.blk s H scope (compEnvC scope cl C X.env) fp) W0 ifs mt)
    (he : ∀ (s : Shared) (H : Hp) (C : Addr) (cl : List (Str × Addr)) (fp : List Addr), PD (X.blk s H scope (compEnvC scope cl C X.env) fp) W0 elt me)
    (hsw : swapsWith (.ListComp elt [⟨tg, iter, ifs, 0⟩] scope pos) (some (.Name y py)) spos.line X.env = pure true) (hy : X.N[i]? = some y := by rfl) (hyl : X.env.scope.names.lookup y = some .local := by rfl)
    (hsl : ∀ i ∈ sl, i ∈ own.map (·.2) := by decide) (hs : ∀ x, foldedSetIterable iter X.env x = pure x := by intro _; rfl) :
    PSD X Wx (.Assign [.Name y py] (.ListComp elt [⟨tg, iter, ifs, 0⟩] scope pos) spos) (msAsg (mNew (mLc n (own.map (·.2)) mi g mt me)) (tgName i)) := psd_setLc i n true hc hN hi ok hg ht he hsw hy hyl hsl hs
end
/-- len of a list, a tuple, a text, a dict -/
def gLenU : Store → List D → Option D := fun S xs => match xs with
  | [x] => (match dicOf S x with
    | some l => (match ownD S x with
      | some _ => some (.int l.length)
      | none => none)
    | none => gLen S [x])
  | _ => none

/-! ### sorted: ints of a list, int keys of a dict -/
theorem insI_perm (x : Int) : ∀ l : List Int, (insI x l).Perm (x :: l)
  | [] => List.Perm.refl _
  | y :: l => by
    unfold insI
    split
    · exact List.Perm.refl _
    · exact ((insI_perm x l).cons y).trans (List.Perm.swap x y l)
theorem sortI_perm : ∀ l : List Int, (sortI l).Perm l
  | [] => List.Perm.refl _
  | x :: l => (insI_perm x (sortI l)).trans ((sortI_perm l).cons x)
theorem insI_sorted (x : Int) : ∀ l : List Int, l.Pairwise (· ≤ ·) → (insI x l).Pairwise (· ≤ ·)
  | [], _ => List.pairwise_singleton _ _
  | y :: l, h => by
    rw [List.pairwise_cons] at h
    unfold insI
    split
    · rename_i hxy
      rw [List.pairwise_cons]
      refine ⟨fun z hz => ?_, List.pairwise_cons.mpr h⟩
      rcases List.mem_cons.mp hz with e | hz
      · rw [e]; exact hxy
      · exact Int.le_trans hxy (h.1 z hz)
    · rename_i hxy
      rw [List.pairwise_cons]
      refine ⟨fun z hz => ?_, insI_sorted x l h.2⟩
      rcases List.mem_cons.mp ((insI_perm x l).mem_iff.mp hz) with e | hz
      · rw [e]; omega
      · exact h.1 z hz
theorem sortI_sorted : ∀ l : List Int, (sortI l).Pairwise (· ≤ ·)
  | [] => List.Pairwise.nil
  | x :: l => insI_sorted x _ (sortI_sorted l)
theorem sorted_eq : ∀ {l m : List Int}, l.Perm m → l.Pairwise (· ≤ ·) → m.Pairwise (· ≤ ·) → l = m
  | [], m, p, _, _ => by rw [List.nil_perm.mp p]
  | a :: l, [], p, _, _ => absurd p.length_eq (by simp)
  | a :: l, b :: m, p, h1, h2 => by
    rw [List.pairwise_cons] at h1 h2
    have e : a = b := by
      have ha : a ∈ b :: m := p.mem_iff.mp List.mem_cons_self
      have hb : b ∈ a :: l := p.mem_iff.mpr List.mem_cons_self
      rcases List.mem_cons.mp ha with z | z
      · exact z
      · rcases List.mem_cons.mp hb with z2 | z2
        · exact z2.symm
        · have := h2.1 a z
          have := h1.1 b z2
          omega
    subst e
    rw [sorted_eq p.cons_inv h1.2 h2.2]
def keyI : List (Key × D) → Option (List Int)
  | [] => some []
  | (.inl i, _) :: r => (keyI r).map (i :: ·)
  | _ => none
def gSortU : Store → List D → Option (List D) := fun S xs => match xs with
  | [x] => (match dicOf S x with
    | some l => (match keyI l with
      | some ns => if ns.length < 64 then some ((sortI ns).map .int) else none
      | none => none)
    | none => (match listOf S x with
      | some l => (intsOf l).map fun ns => (sortI ns).map .int
      | none => none))
  | _ => none
def rSortU (K : W.Frag) : List V → Hp → VK → Prop := fun xs H Q => rSortedI K xs H Q ∨ ∃ (a : Addr) (kvs : List (Key × V)) (ks : List Int), xs = [.ref a] ∧ Rd H a (.dK kvs) ∧ kvs.map (·.1) = ks.map Sum.inl ∧ ks.length < 64 ∧
    ∀ (ys : List Int) (p : Addr), ys.Perm ks → ys.Pairwise (· ≤ ·) → H p = none → Q (.ref p) (upd H p (.lst (ys.map V.int)))
theorem call_sortU {X : Cx} (hc : X.calm = true) : CallR X (.builtin "sorted") (rSortU X.K) := by
  intro pins s σ H xs us Q I r q
  rcases q with q | q
  · exact cr_sortedI pins s σ H xs us Q I r q
  · exact call_sortedDI hc pins s σ H xs us Q I r q
theorem ints_R {K : W.Frag} {G : Hp} {ρ : List Addr} : ∀ ns : List Int, Reps K G ρ (ns.map D.int) (ns.map V.int)
  | [] => rfl
  | n :: r => ⟨.int n, r.map V.int, rfl, rfl, ints_R r⟩
theorem keyI_rep {K : W.Frag} {G : Hp} {ρ : List Addr} : ∀ {l : List (Key × D)} {kvs : List (Key × V)} {ns : List Int}, KRep K G ρ l kvs → keyI l = some ns → kvs.map (·.1) = ns.map Sum.inl
  | [], kvs, ns, h, e => by
    have e := Option.some.inj e
    subst e
    cases h
    rfl
  | (k, d) :: r, kvs, ns, h, e => by
    cases k with
    | inr s => cases e
    | inl i =>
      cases h with
      | @cons p q ps qs hp t =>
        have e : (keyI r).map (i :: ·) = some ns := e
        cases z : keyI r with
        | none => rw [z] at e; cases e
        | some m =>
          rw [z] at e
          have e : i :: m = ns := Option.some.inj e
          subst e
          have ih := keyI_rep t z
          rw [List.map_cons, List.map_cons, ih, ← hp.1]
theorem cal_sortU {K : W.Frag} : CaL K (rSortU K) gSortU := by
  intro G H ρ S xs vs Q rs rx d e k
  unfold gSortU at e
  split at e
  · rename_i x
    obtain ⟨v, rfl, rv⟩ := rx.one_of
    split at e
    · rename_i l hl
      obtain ⟨a, kvs, ev, _, h1, h2⟩ := dicOf_rep rs rv hl
      split at e
      · rename_i ns hn
        split at e
        · rename_i h64
          have e := Option.some.inj e
          subst e
          refine .inr ⟨a, kvs, ns, by rw [ev], h1, keyI_rep h2 hn, h64, fun ys p hp hs hn => ?_⟩
          have ey : ys = sortI ns := sorted_eq (hp.trans (sortI_perm ns).symm) hs (sortI_sorted ns)
          subst ey
          exact k p _ hn (ints_R _)
        · cases e
      · cases e
    · split at e
      · rename_i l hl
        obtain ⟨a, ws, ev, h1, h2⟩ := list_rep rs rv hl
        obtain ⟨ns, en, ed⟩ := map_some e
        subst ed
        have ew := ints_rep h1 en
        subst ew
        refine .inl ⟨a, ns, by rw [ev], h2, fun ys p hp hs hn => ?_⟩
        have ey : ys = sortI ns := sorted_eq (hp.trans (sortI_perm ns).symm) hs (sortI_sorted ns)
        subst ey
        exact k p _ hn (ints_R _)
      · cases e
  · cases e
end MD
set_option Elab.async false
set_option linter.all false
set_option maxRecDepth 100000
set_option maxHeartbeats 1000000
/-! calls with keywords that follow the parameters' order -/
namespace MD
open PySem PySem.Spec PyProof.Rows L2

/-- n0 values by place, then those named ks -/
def KB (K : PySem.W.Frag) (fd : FuncData) (ps ks : List Str) (n0 : Nat) : Prop := ∀ (s : Shared) (us ws : List Value), K.In s.heap → (us ++ ws).length = ps.length → us.length = n0 → BindsTo s fd ⟨us, ks.zip ws⟩ (ps.zip (us ++ ws))
structure FcalK (P : Program) (w : World) (K : PySem.W.Frag) (mg : Str → Option Value) (base : Heap) (k : Nat) (x : Str) (n : Nat) (F : Fn) (n0 : Nat) (ks : List Str) : Prop where
  ex : ∃ (f : Addr) (fd : FuncData) (ps : List Str), FnOk P w K mg base (L2.CX P w) k f fd ps (spF K n F) ∧ mg x = some (.ref f) ∧ PySem.W.keepIn K (.ref f) = true ∧ KB K fd ps ks n0
section
variable {X : Cx} {Wx : WX} {CX : CXT} {k j n n0 : Nat} {f : Addr} {fd : FuncData} {ps ks : List Str} {sp : Sp} {E : L2.St → XK} {x : Str} {p pos : Pos} {e : Expr} {es : List Expr} {kws : List Keyword} {t tk : TA} {F : Fn}
theorem run_kS {pins : List (Addr × Obj)} {σ : L2.St} {H : Hp} {s : Shared} {Q : VK} {us ws : List Value} {vs zs : List V} (Fo : FnOk X.prog X.w X.K X.mg X.base CX k f fd ps sp) (hr : Room k X.A) (hb : KB X.K fd ps ks n0) (hx : PassesAt CX X σ (E σ))
    (I : Inv X pins σ H s) (r : Vals vs us) (rz : Vals zs ws) (hn : vs.length = n0) (h : sp (vs ++ zs) H Q (E σ)) : wpAny (model X.prog X.w) X.A (call (.ref f) us (ks.zip ws)) (EP X pins σ Q) X.xe s := by
  have r2 : Vals (vs ++ zs) (us ++ ws) := r.append rz
  have hl : (us ++ ws).length = ps.length := by rw [← r2.length]; exact Fo.len _ _ _ _ h
  refine wpAny_call (codeAny_mono (Fo.run X.A X.stack s H ⟨us, ks.zip ws⟩ (us ++ ws) (vs ++ zs) Q (E σ) hr I.env0 (hb s us ws I.kIn hl (by rw [← r.length]; exact hn)) r2 h) fun rr s' hq => ?_)
  cases rr with
  | error e => exact hx pins H s e s' I hq
  | ok fl =>
    cases fl with
    | ret u => exact I.after hq
    | next => exact hq.elim
    | brk => exact hq.elim
    | cont => exact hq.elim
def tCallKS (n0 : Nat) (sp : Sp) (E : L2.St → XK) (t tk : TA) : TE := fun σ H Q => t σ H fun vs H1 => tk σ H1 fun zs H2 => vs.length = n0 ∧ sp (vs ++ zs) H2 Q (E σ)
theorem pe_kS (Fo : FnOk X.prog X.w X.K X.mg X.base CX k f fd ps sp) (hr : Room k X.A) (hg : Gl X x) (hm : X.mg x = some (.ref f)) (hk : PySem.W.keepIn X.K (.ref f) = true) (hb : KB X.K fd ps ks n0) (hx : ∀ σ, PassesAt CX X σ (E σ))
    (ha : PA X (e :: es) t) (hkw : PK X kws tk) (hall : (backToKw pos (keywordEach kws X.env)).all (·.1.isSome) = true := by rfl) (hks : (backToKw pos (keywordEach kws X.env)).filterMap (·.1) = ks := by rfl)
    (hdb : (x == ("__debug__" : Str)) = false := by decide) (he : starEach (e :: es) X.env = (false, eval e X.env) :: starEach es X.env := by rfl)
    (hpl : ((backTo pos (starEach (e :: es) X.env)).any (·.1) || (backToKw pos (keywordEach kws X.env)).any (·.1.isNone)) = false := by rfl) : PE X (.Call (.Name x p) (e :: es) kws pos) (tCallKS n0 sp E t tk) := by
  refine ⟨fun pins s σ H Q I hw => ?_⟩
  refine wpAny_Call_Name_kw (ld_glob I hg hm ?_ hdb)
  refine PySem.W.callWith_KW (h₀ := X.base) I.ok.mod.kin hk hall (thn (ha.run pos pins s σ H _ I hw) fun us s1 hq => ?_) hpl he
  obtain ⟨vs, H1, I1, r, q⟩ := hq
  refine thn (hkw.run pos pins s1 σ H1 _ I1 q) fun ws s2 hq2 => ?_
  obtain ⟨zs, H2, I2, rz, hn, q2⟩ := hq2
  refine ⟨I2.kIn, ?_⟩
  rw [hks]
  exact run_kS Fo hr hb (hx σ) I2 r rz hn q2
theorem pe_kS0 (Fo : FnOk X.prog X.w X.K X.mg X.base CX k f fd ps sp) (hr : Room k X.A) (hg : Gl X x) (hm : X.mg x = some (.ref f)) (hk : PySem.W.keepIn X.K (.ref f) = true) (hb : KB X.K fd ps ks 0) (hx : ∀ σ, PassesAt CX X σ (E σ))
    (hkw : PK X kws tk) (hall : (backToKw pos (keywordEach kws X.env)).all (·.1.isSome) = true := by rfl) (hks : (backToKw pos (keywordEach kws X.env)).filterMap (·.1) = ks := by rfl)
    (hdb : (x == ("__debug__" : Str)) = false := by decide) (hpl : ((backTo pos (starEach [] X.env)).any (·.1) || (backToKw pos (keywordEach kws X.env)).any (·.1.isNone)) = false := by rfl) : PE X (.Call (.Name x p) [] kws pos) (tCallKS 0 sp E tNil tk) := by
  refine ⟨fun pins s σ H Q I hw => ?_⟩
  refine wpAny_Call_Name_kw (ld_glob I hg hm ?_ hdb)
  refine PySem.W.callWith_KW0 (h₀ := X.base) I.ok.mod.kin hk hall ?_ hpl
  refine thn (hkw.run pos pins s σ H _ I hw) fun ws s2 hq2 => ?_
  obtain ⟨zs, H2, I2, rz, hn, q2⟩ := hq2
  refine ⟨I2.kIn, ?_⟩
  rw [hks]
  exact run_kS (us := []) (vs := []) Fo hr hb (hx σ) I2 .nil rz rfl q2
def PKs (X : Cx) (Wx : WX) (kws : List Keyword) (m : M (List D)) : Prop := ∃ t, PK X kws t ∧ SndA X.K Wx t m
theorem pks_nil : PKs X Wx [] mNil := ⟨_, pk_nil, snd_nil⟩
theorem pks_cons {nm : Option Str} {kpos : Pos} {ma : M D} {mr : M (List D)} (ha : PD X Wx e ma) (hr : PKs X Wx kws mr) : PKs X Wx (⟨nm, e, kpos⟩ :: kws) (mCons ma mr) := by
  obtain ⟨t, h1, h2⟩ := ha
  obtain ⟨u, h3, h4⟩ := hr
  exact ⟨_, pk_cons h1 h3, snd_cons h2 h4⟩
def mApp (a b : M (List D)) : M (List D) := fun e S => bnd (a e S) fun x S1 => bnd (b e S1) fun y S2 => .some (x ++ y, S2)
def tPure (tk : TA) (t : TA) : TA := fun σ H Q => t σ H fun vs H1 => tk σ H1 fun zs H2 => Q (vs ++ zs) H2
theorem snd_app {K : W.Frag} {t u : TA} {a b : M (List D)} (h : SndA K Wx t a) (h' : SndA K Wx u b) : SndA K Wx (tPure u t) (mApp a b) := by
  intro σ H Q e G ρ S he rs q
  refine h σ H _ e G ρ S he rs (Aft.imp (Aft.bind q) fun x S1 G1 H1 ρ1 g1 rs1 k vs rv => ?_)
  refine h' σ H1 _ e G1 ρ1 S1 (he.mono g1.gr g1.pl) rs1 (Aft.imp (Aft.bind k) fun y S2 G2 H2 ρ2 g2 rs2 k2 zs rz => ?_)
  exact k2 G2 H2 ρ2 Go.refl rs2 _ ((Reps.mono g2.gr g2.pl _ _ rv).append rz)
def mLen (n0 : Nat) (m : M (List D)) : M (List D) := fun e S => bnd (m e S) fun ds S1 => if ds.length = n0 then .some (ds, S1) else .none
theorem snd_callKP {K : W.Frag} {F : Fn} {t tk : TA} {m mk : M (List D)} (h : SndA K Wx t m) (hk : SndA K Wx tk mk) : SndE K Wx (tCallKS n0 (spF K n F) (WE Wx) t tk) (mCallP n F (mApp (mLen n0 m) mk)) := by
  intro σ H Q e G ρ S he rs q
  have q0 : Aft K (wE K Wx σ) G H ρ (bnd (m e S) fun ds S1 => bnd (if ds.length = n0 then mk e S1 else .none) fun zs S2 => if (ds ++ zs).length = n ∧ noRefs (ds ++ zs) = true then pureR 40 S2 (F (ds ++ zs) []) else .none) (Want K Q) := by
    unfold mCallP mApp mLen at q
    cases z : m e S with
    | none => rw [z] at q; exact q
    | err x S1 => rw [z] at q; exact q
    | some r =>
      obtain ⟨ds, S1⟩ := r
      rw [z] at q
      dsimp only [bnd] at q ⊢
      by_cases hl : ds.length = n0
      · rw [if_pos hl] at q ⊢
        dsimp only [bnd] at q
        cases z2 : mk e S1 with
        | none => rw [z2] at q; exact q
        | err x S2 => rw [z2] at q; exact q
        | some r2 => rw [z2] at q; exact q
      · rw [if_neg hl] at q ⊢
        exact q
  refine h σ H _ e G ρ S he rs (Aft.imp (Aft.bind q0) fun ds S1 G1 H1 ρ1 g1 rs1 k vs rv => ?_)
  by_cases hl : ds.length = n0
  · rw [if_pos hl] at k
    refine hk σ H1 _ e G1 ρ1 S1 (he.mono g1.gr g1.pl) rs1 (Aft.imp (Aft.bind k) fun zs S2 G2 H2 ρ2 g2 rs2 k2 ws rw' => ?_)
    refine ⟨by rw [← rv.length]; exact hl, ?_⟩
    split at k2
    · rename_i hc
      have rs0 : RS K G2 H2 [] [] := ⟨rfl, List.nodup_nil, rs2.sub, fun a ha => absurd ha List.not_mem_nil, fun n o a h _ => by simp at h⟩
      refine ⟨ds ++ zs, G2, [], [], rs0, Reps.nr _ _ hc.2 ((Reps.mono g2.gr g2.pl _ _ rv).append rw'), hc.1, ?_⟩
      exact pure_aft rs2 k2
    · exact k2.elim
  · rw [if_neg hl] at k
    exact k.elim
theorem pd_callKP (c : FcalK X.prog X.w X.K X.mg X.base k x n F n0 ks) (hr : Room j X.A) (hk : k ≤ j) (tk : Takes X Wx) (hg : Gl X x) {m mk : M (List D)} (ha : PAs X Wx (e :: es) m) (hkw : PKs X Wx kws mk)
    (hall : (backToKw pos (keywordEach kws X.env)).all (·.1.isSome) = true := by rfl) (hks : (backToKw pos (keywordEach kws X.env)).filterMap (·.1) = ks := by rfl)
    (hdb : (x == ("__debug__" : Str)) = false := by decide) (he : starEach (e :: es) X.env = (false, eval e X.env) :: starEach es X.env := by rfl)
    (hpl : ((backTo pos (starEach (e :: es) X.env)).any (·.1) || (backToKw pos (keywordEach kws X.env)).any (·.1.isNone)) = false := by rfl) : PD X Wx (.Call (.Name x p) (e :: es) kws pos) (mCallP n F (mApp (mLen n0 m) mk)) := by
  obtain ⟨f, fd, ps, ok, hm, kp, b⟩ := c.ex
  obtain ⟨t, h1, h2⟩ := ha
  obtain ⟨u, h3, h4⟩ := hkw
  exact ⟨_, pe_kS ok (hr.mono hk) hg hm kp b (fun σ => passAt tk σ) h1 h3 hall hks hdb he hpl, snd_callKP h2 h4⟩
theorem pd_callKP0 (c : FcalK X.prog X.w X.K X.mg X.base k x n F 0 ks) (hr : Room j X.A) (hk : k ≤ j) (tk : Takes X Wx) (hg : Gl X x) {mk : M (List D)} (hkw : PKs X Wx kws mk)
    (hall : (backToKw pos (keywordEach kws X.env)).all (·.1.isSome) = true := by rfl) (hks : (backToKw pos (keywordEach kws X.env)).filterMap (·.1) = ks := by rfl)
    (hdb : (x == ("__debug__" : Str)) = false := by decide) (hpl : ((backTo pos (starEach [] X.env)).any (·.1) || (backToKw pos (keywordEach kws X.env)).any (·.1.isNone)) = false := by rfl) : PD X Wx (.Call (.Name x p) [] kws pos) (mCallP n F (mApp (mLen 0 mNil) mk)) := by
  obtain ⟨f, fd, ps, ok, hm, kp, b⟩ := c.ex
  obtain ⟨u, h3, h4⟩ := hkw
  exact ⟨_, pe_kS0 ok (hr.mono hk) hg hm kp b (fun σ => passAt tk σ) h3 hall hks hdb hpl, snd_callKP snd_nil h4⟩
end
end MD
set_option Elab.async false
set_option linter.all false
set_option maxRecDepth 100000
set_option maxHeartbeats 1000000
/-! ends: what the written part says of defs, numbers, classes; the law's promise -/
namespace MD
open PySem PySem.Spec PyProof.Rows L2
structure H1 (K : PySem.W.Frag) (x : Str) (st : Stmt) : Prop where
  ex : ∃ f fd, PySem.W.nsIn K mainGlobals x = some (some (.ref f)) ∧ Fun K x x st f fd
theorem h1_mk {K : PySem.W.Frag} {x : Str} {st : Stmt} {f : Addr} {oc : Value} {od an : Option Addr} {osl : Array (Option Value)} {kV doc pm cdv ct : Value} (a : PySem.W.nsIn K mainGlobals x = some (some (.ref f)))
    (l : K.lookup f = some ⟨oc, od, .func (PySem.W.fnOf x x (defArgs st) (defBody st) (defScope st) .none kV doc pm an cdv ct), osl⟩) (c : PySem.W.codeIn K cdv x = true) (k : PySem.W.keepIn K (.ref f) = true) : H1 K x st := ⟨f, _, a, fun_mk l c k⟩
structure NumK (K : PySem.W.Frag) (x : Str) (i : Int) : Prop where
  ex : ∃ t, PySem.W.nsIn K mainGlobals x = some (some (.int i t))
theorem num_mk {K : PySem.W.Frag} {x : Str} {i : Int} {v : Value} (a : PySem.W.nsIn K mainGlobals x = some (some v)) (e : ∃ t, v = .int i t) : NumK K x i := by
  obtain ⟨t, rfl⟩ := e
  exact ⟨t, a⟩
theorem NumK.cst {K : PySem.W.Frag} {x : Str} {i : Int} {h : Heap} {mg : Str → Option Value} (n : NumK K x i) (X : K.In h) (G : h.Ns mainGlobals mg) : Cst K mg x (.int i) := by
  obtain ⟨t, e⟩ := n.ex
  exact ⟨i, t, rfl, PySem.W.mg_of X G e⟩
structure ExcK (K : PySem.W.Frag) (x : Str) (C : Addr) : Prop where
  at_ : PySem.W.nsIn K mainGlobals x = some (some (.ref C))
  ex : PySem.W.excIn K C [.type "ValueError", .type "Exception", .type "BaseException", .type "object"] "ValueError.__new__" = true
  kp : PySem.W.keepIn K (.ref C) = true
  sub : PySem.W.subIn K (.ref C) (.type "BaseException") = some true
  ty : PySem.W.typeIn K (.ref C) = some (.type "type")
theorem ExcK.bare {K : PySem.W.Frag} {x : Str} {C : Addr} {h : Heap} {mg : Str → Option Value} (e : ExcK K x C) (X : K.In h) (G : h.Ns mainGlobals mg) : Bare K mg x C :=
  ⟨PySem.W.mg_of X G e.at_, e.kp, ⟨_, _, _, _, PySem.F.excBase_ValueError, e.ex⟩, e.sub, e.ty⟩
theorem exc_mk {K : PySem.W.Frag} {x : Str} {C : Addr} (a : PySem.W.nsIn K mainGlobals x = some (some (.ref C))) (b : PySem.W.excIn K C [.type "ValueError", .type "Exception", .type "BaseException", .type "object"] "ValueError.__new__" = true)
    (c : PySem.W.keepIn K (.ref C) = true) (d : PySem.W.subIn K (.ref C) (.type "BaseException") = some true ∧ PySem.W.typeIn K (.ref C) = some (.type "type")) : ExcK K x C := ⟨a, b, c, d.1, d.2⟩
theorem kb_of {K : PySem.W.Frag} {x qual : Str} {st : Stmt} {f : Addr} {fd : FuncData} {ps ks : List Str} {n0 : Nat} (F : Fun K x qual st f fd)
    (h : ∀ (kV doc pm : Value) (an : Option Addr) (cdv ct : Value) (us ws : List Value), (us ++ ws).length = ps.length → us.length = n0 → bindArgs (PySem.W.fnOf x qual (defArgs st) (defBody st) (defScope st) .none kV doc pm an cdv ct) ⟨us, ks.zip ws⟩ = pure (ps.zip (us ++ ws))) : KB K fd ps ks n0 := by
  obtain ⟨oc, od, kV, doc, pm, an, cdv, ct, osl, rfl, lk, hcd⟩ := F.ex
  exact fun s us ws _ hl hn => .of_eq (h kV doc pm an cdv ct us ws hl hn)
/-- the law's promise -/
def spLaw (K : PySem.W.Frag) : Sp := fun vs H Q _ => ∃ (a : Addr) (ns : List Int), vs = [.ref a] ∧ SqL K H a (ns.map V.int) ∧ ns.length ≤ 63 ∧ (∀ z ∈ ns, Builtin.Int.intBits z ≤ 1048576) ∧ ∀ H', Q (.bl true) H'
theorem spLaw_imp {K : PySem.W.Frag} {F : Fn} (plain : ∀ ns : List Int, ns.length ≤ 63 → (∀ z ∈ ns, Builtin.Int.intBits z ≤ 1048576) → ∃ S, F [.scr (ns.map .int)] [] = .some (.bl true, S)) : ∀ vs H Q E, spLaw K vs H Q E → spF K 1 F vs H Q E := by
  intro vs H Q E h
  obtain ⟨a, ns, rfl, hS, hl, hb, q⟩ := h
  obtain ⟨S, e⟩ := plain ns hl hb
  refine ⟨[.scr (ns.map .int)], H, [], [], ⟨rfl, List.nodup_nil, GLe.refl _, fun a ha => absurd ha List.not_mem_nil, fun n o a h _ => by simp at h⟩, ⟨.ref a, [], rfl, ⟨a, _, rfl, hS, ints_R ns⟩, rfl⟩, rfl, ?_⟩
  rw [e]
  intro G' H' ρ' _ _ v rv
  have rv : v = .bl true := rv
  rw [rv]
  exact q H'
theorem cx_no {P : Program} {w : World} {outer : List PySem.Env} {H : Hp} {s : Shared} {e : Value} {s' : Shared} (h : L2.CX P w outer H s (fun _ _ _ => False) e s') : False := by
  obtain ⟨_, _, _, _, _, _, _, _, _, _, _, _, z⟩ := h
  exact z
end MD
set_option Elab.async false
set_option linter.all false
set_option maxRecDepth 100000
set_option maxHeartbeats 1000000
/-! more methods, more built-ins -/
namespace MD
open PySem PySem.Spec PyProof.Rows L2
def gExtend : Store → D → List D → Out (D × Store) := fun S x xs => match ownL S x, xs with
  | some (n, l), [y] => (match runL S y with
    | some r => if l.length + r.length ≤ sizeLine then .some (.non, S.set n (.lst (l ++ r))) else .none
    | none => .none)
  | _, _ => .none
theorem mts_extend {K : W.Frag} : MtS K rExtend gExtend := by
  intro w G H ρ S x v xs vs Q rs rx rxs q
  unfold gExtend at q
  split at q
  · rename_i n l y ho
    split at q
    · rename_i r hr
      split at q
      · rename_i hz
        obtain ⟨a, ws, ev, hn, ha, hl⟩ := ownL_rep rs rx ho
        obtain ⟨u, evs, ru⟩ := rxs.one_of
        obtain ⟨b, zs, eb, hb, hrr⟩ := runL_rep rs ru hr
        subst eb
        obtain ⟨g2, rs2⟩ := putL rs hn ha (hl.append hrr)
        exact ⟨a, b, ws, zs, ev, evs, ha, hb, by rw [← hl.length, ← hrr.length]; exact hz, q G _ ρ g2 rs2 .non rfl⟩
      · exact q.elim
    · exact q.elim
  · exact q.elim
theorem pd_extend {X : Cx} {Wx : WX} {o e : Expr} {apos cpos : Pos} {ma : M D} {mt : M (List D)} (ho : PD X Wx o ma) (ha : PAs X Wx [e] mt)
    (hbase : attributeBase o "extend" X.env (eval o X.env) = eval o X.env := by rfl)
    (hfew : ((backTo cpos (starEach [e] X.env)).all (fun x => !x.1) && (backToKw cpos (keywordEach [] X.env)).all (fun x => x.1.isSome)
      && decide ([e].length + ([] : List Keyword).length + (if ([] : List Keyword).isEmpty then 0 else 1) < 30)) = true := by rfl)
    (hline : (apos.endLine == cpos.line) = true := by rfl) (hs : starEach [e] X.env = (false, eval e X.env) :: starEach [] X.env := by rfl) (hplain : (backTo cpos (starEach [] X.env)).any (·.1) = false := by rfl) :
    PD X Wx (.Call (.Attribute o "extend" apos) [e] [] cpos) (mMt "list" gExtend ma mt) := pd_mt PySem.F.plainAttrs_list PySem.F.slot_list_extend PySem.F.type_list_extend mt_extend mts_extend ho ha hbase hfew hline hs hplain
end MD
set_option Elab.async false
set_option linter.all false
set_option maxRecDepth 100000
set_option maxHeartbeats 1000000
/-! the plain functions evaluated: equations for the evaluator's simp set -/
namespace MD
open PySem PySem.Spec PyProof.Rows L2
section
variable {α β : Type} {S S1 S2 : Store} {e e1 : Env}
theorem bnd_congr {r r' : Out (α × Store)} {f : α → Store → Out (β × Store)} (h : r = r') : bnd r f = bnd r' f := by rw [h]
theorem bndS_congr {r r' : Out (α × Store)} {f : α → Store → Option SR} (h : r = r') : bndS e r f = bndS e r' f := by rw [h]
theorem ev_bnd {a : α} {f : α → Store → Out (β × Store)} : bnd (.some (a, S)) f = f a S := rfl
theorem ev_bnd_err {x : XV} {f : α → Store → Out (β × Store)} : bnd (.err x S) f = .err x S := rfl
theorem ev_bnd_none {f : α → Store → Out (β × Store)} : bnd .none f = .none := rfl
theorem ev_bndS {a : α} {f : α → Store → Option SR} : bndS e (.some (a, S)) f = f a S := rfl
theorem ev_bndS_err {x : XV} {f : α → Store → Option SR} : bndS e (.err x S) f = some (.ex x e S) := rfl
theorem ev_fin {a : α} : fin (some a) S = .some (a, S) := rfl
/-- one statement behind another -/
def seqS (r : Option SR) (k : MS) : Option SR := match r with
  | some (.nx e S) => k e S
  | r => r
theorem seqS_congr {r r' : Option SR} {k : MS} (h : r = r') : seqS r k = seqS r' k := by rw [h]
theorem ev_seq {a b : MS} : msSeq a b e S = seqS (a e S) b := rfl
theorem ev_seqS_nx {k : MS} : seqS (some (.nx e S)) k = k e S := rfl
theorem ev_seqS_rt {k : MS} {d : D} : seqS (some (.rt d S)) k = some (.rt d S) := rfl
theorem ev_seqS_bk {k : MS} : seqS (some (.bk e S)) k = some (.bk e S) := rfl
theorem ev_seqS_ct {k : MS} : seqS (some (.ct e S)) k = some (.ct e S) := rfl
theorem ev_seqS_ex {k : MS} {x : XV} : seqS (some (.ex x e S)) k = some (.ex x e S) := rfl
/-- a choice whose ways are left alone till it is told -/
def pick (c : Bool) (a b : α) : α := if c = true then a else b
theorem pick_congr {c c' : Bool} {a b : α} (h : c = c') : pick c a b = pick c' a b := by rw [h]
theorem ev_pick_t {a b : α} : pick true a b = a := rfl
theorem ev_pick_f {a b : α} : pick false a b = b := rfl
/-- a choice of two values -/
def pickE (c : Bool) (a b : α) : α := if c = true then a else b
theorem ev_pickE_t {a b : α} : pickE true a b = a := rfl
theorem ev_pickE_f {a b : α} : pickE false a b = b := rfl
theorem ev_pickE_some {c : Bool} {a b : α} : pickE c (Out.some (a, S)) (Out.some (b, S)) = .some (pickE c a b, S) := by cases c <;> rfl
theorem ev_pickE_and {c x : Bool} : pickE c x false = (c && x) := by cases c <;> rfl
theorem ev_pickE_or {c x : Bool} : pickE c true x = (c || x) := by cases c <;> rfl
theorem pick_pos {c : Bool} {a b : α} (h : c = true) : pick c a b = a := by rw [h]; rfl
theorem pick_neg {c : Bool} {a b : α} (h : c = false) : pick c a b = b := by rw [h]; rfl
theorem ev_dt : decide True = true := rfl
theorem ev_df : decide False = false := rfl
theorem ev_nt : (!true) = false := rfl
theorem ev_nf : (!false) = true := rfl
theorem ev_at {b : Bool} : (true && b) = b := by cases b <;> rfl
theorem ev_af {b : Bool} : (false && b) = false := rfl
theorem ev_ot {b : Bool} : (true || b) = true := rfl
theorem ev_of {b : Bool} : (false || b) = b := by cases b <;> rfl

/-! ### names, displays -/
theorem ev_var0 {d : D} : mVar 0 (some d :: e) S = .some (d, S) := rfl
theorem ev_varS {i : Nat} {x : Option D} : mVar (i + 1) (x :: e) S = mVar i e S := rfl
theorem ev_c {d : D} : mC d e S = .some (d, S) := rfl
theorem ev_op2 {g : Store → D → D → Option D} {a b : M D} : mOp2 g a b e S = bnd (a e S) fun x S1 => bnd (b e S1) fun y S2 => fin (g S2 x y) S2 := rfl
theorem ev_op1 {g : Store → D → Option D} {a : M D} : mOp1 g a e S = bnd (a e S) fun x S1 => fin (g S1 x) S1 := rfl
theorem ev_opN {g : Store → List D → Option D} {a : M (List D)} : mOpN g a e S = bnd (a e S) fun x S1 => fin (g S1 x) S1 := rfl
theorem ev_nil : mNil e S = .some ([], S) := rfl
theorem ev_cons {a : M D} {r : M (List D)} : mCons a r e S = bnd (a e S) fun x S1 => bnd (r e S1) fun l S2 => .some (x :: l, S2) := rfl
def fitL (l : List D) (S : Store) : Out (List D × Store) := if l.length ≤ sizeLine then .some (l, S) else .none
theorem ev_lst {m : M (List D)} : mLst m e S = bnd (m e S) fitL := rfl
theorem fitL_of {l : List D} (h : l.length ≤ sizeLine) : fitL l S = .some (l, S) := if_pos h
theorem sizeLine_ge {n : Nat} (h : n ≤ 16777216) : n ≤ sizeLine := h
theorem ev_fitL0 : fitL [] S = .some ([], S) := rfl
theorem ev_fitL1 {a : D} : fitL [a] S = .some ([a], S) := rfl
theorem ev_fitL2 {a b : D} : fitL [a, b] S = .some ([a, b], S) := rfl
theorem ev_fitL3 {a b c : D} : fitL [a, b, c] S = .some ([a, b, c], S) := rfl
theorem ev_fitL4 {a b c d : D} : fitL [a, b, c, d] S = .some ([a, b, c, d], S) := rfl
theorem ev_frz {m : M (List D)} : mFrz m e S = bnd (m e S) fun l S1 => .some (.lst l, S1) := rfl
theorem ev_new {m : M (List D)} : mNew m e S = bnd (m e S) fun l S1 => .some (.ref S1.length, S1 ++ [.lst l]) := rfl
theorem gTup_of {xs : List D} (h : xs.length ≤ sizeLine) : gTup S xs = some (.tup xs) := if_pos h
theorem ev_gTup0 : gTup S [] = some (.tup []) := rfl
theorem ev_gTup1 {a : D} : gTup S [a] = some (.tup [a]) := rfl
theorem ev_gTup2 {a b : D} : gTup S [a, b] = some (.tup [a, b]) := rfl
theorem ev_gTup3 {a b c : D} : gTup S [a, b, c] = some (.tup [a, b, c]) := rfl
theorem ev_gTup4 {a b c d : D} : gTup S [a, b, c, d] = some (.tup [a, b, c, d]) := rfl
theorem ev_gTup5 {a b c d x : D} : gTup S [a, b, c, d, x] = some (.tup [a, b, c, d, x]) := rfl
theorem ev_gTup6 {a b c d x y : D} : gTup S [a, b, c, d, x, y] = some (.tup [a, b, c, d, x, y]) := rfl

/-! ### tests -/
def tst (x : D) (S : Store) : Out (Bool × Store) := match x with
  | .bl b => .some (b, S)
  | _ => .none
theorem ev_test {m : M D} : mTest m e S = bnd (m e S) tst := rfl
theorem ev_tst {b : Bool} : tst (.bl b) S = .some (b, S) := rfl
theorem ev_tru {m : M D} : mTru m e S = bnd (m e S) fun x S1 => fin (truD S1 x) S1 := rfl
theorem ev_tru_non : truD S .non = some false := rfl
theorem ev_tru_bl {b : Bool} : truD S (.bl b) = some b := rfl
theorem ev_tru_int {i : Int} : truD S (.int i) = some (i != 0) := rfl
theorem ev_tru_tup {l : List D} : truD S (.tup l) = some (!l.isEmpty) := rfl
theorem ev_tru_lst {l : List D} : truD S (.lst l) = some (!l.isEmpty) := rfl
theorem ev_tru_scr {l : List D} : truD S (.scr l) = some (!l.isEmpty) := rfl
theorem ev_and {t u : M Bool} : mAnd t u e S = bnd (t e S) fun b S1 => pickE b (u e S1) (.some (false, S1)) := rfl
theorem ev_or {t u : M Bool} : mOr t u e S = bnd (t e S) fun b S1 => pickE b (.some (true, S1)) (u e S1) := rfl
theorem ev_not {t : M Bool} : mNot t e S = bnd (t e S) fun b S1 => .some (!b, S1) := rfl
theorem ev_ite {t : M Bool} {a b : M D} : mIte t a b e S = bnd (t e S) fun c S1 => pickE c (a e S1) (b e S1) := rfl
theorem ev_pickE_int {c : Bool} {i j : Int} : pickE c (D.int i) (D.int j) = .int (pickE c i j) := by cases c <;> rfl
theorem ev_pickE_bl {c : Bool} {i j : Bool} : pickE c (D.bl i) (D.bl j) = .bl (pickE c i j) := by cases c <;> rfl
def orP (r : Option Bool) (x : D) (S : Store) (o : Out (D × Store)) : Out (D × Store) := match r with
  | some true => .some (x, S)
  | some false => o
  | none => .none
def andP (r : Option Bool) (x : D) (S : Store) (o : Out (D × Store)) : Out (D × Store) := match r with
  | some false => .some (x, S)
  | some true => o
  | none => .none
theorem ev_orV {a b : M D} : mOrV a b e S = bnd (a e S) fun x S1 => orP (truD S1 x) x S1 (b e S1) := rfl
theorem ev_andV {a b : M D} : mAndV a b e S = bnd (a e S) fun x S1 => andP (truD S1 x) x S1 (b e S1) := rfl
theorem ev_orP_t {x : D} {o : Out (D × Store)} : orP (some true) x S o = .some (x, S) := rfl
theorem ev_orP_f {x : D} {o : Out (D × Store)} : orP (some false) x S o = o := rfl
theorem ev_andP_t {x : D} {o : Out (D × Store)} : andP (some true) x S o = o := rfl
theorem ev_andP_f {x : D} {o : Out (D × Store)} : andP (some false) x S o = .some (x, S) := rfl
theorem ev_orP_b {b c : Bool} : orP (some b) (.bl b) S (.some (.bl c, S)) = .some (.bl (b || c), S) := by cases b <;> rfl
theorem ev_andP_b {b c : Bool} : andP (some b) (.bl b) S (.some (.bl c, S)) = .some (.bl (b && c), S) := by cases b <;> rfl
theorem ev_notV {a : M D} : mNotV a e S = bnd (a e S) fun x S1 => fin ((truD S1 x).map fun b => .bl (!b)) S1 := rfl
theorem ev_omap {α β : Type} {f : α → β} {a : α} : (some a).map f = some (f a) := rfl
theorem ev_obind {α β : Type} {f : α → Option β} {a : α} : (some a).bind f = f a := rfl

/-! ### operations -/
theorem ev_add {i j : Int} : gAdd S (.int i) (.int j) = some (.int (i + j)) := rfl
theorem ev_addI {i j : Int} : gI (fun i j => .int (i + j)) S (.int i) (.int j) = some (.int (i + j)) := rfl
theorem ev_subI {i j : Int} : gI (fun i j => .int (i - j)) S (.int i) (.int j) = some (.int (i - j)) := rfl
theorem add_tup {l r : List D} (h : l.length + r.length ≤ sizeLine) : gAdd S (.tup l) (.tup r) = some (.tup (l ++ r)) := if_pos h
theorem add_lst {l r : List D} (h : l.length + r.length ≤ sizeLine) : gAdd S (.lst l) (.lst r) = some (.lst (l ++ r)) := if_pos h
theorem add_str {a b : Str} (h : a.length + b.length ≤ sizeLine) : gAdd S (.str a) (.str b) = some (.str (a ++ b)) := if_pos h
theorem ev_mul {i j : Int} (h : cMulX i j = true) : gMul S (.int i) (.int j) = some (.int (i * j)) := if_pos h
theorem ev_div {i j : Int} (h : cDivX i j = true) : gIC cDivX (fun i j => .int (i.fdiv j)) S (.int i) (.int j) = some (.int (i.fdiv j)) := if_pos h
theorem ev_mod {i j : Int} (h : j ≠ 0) : gIC (fun _ j => decide (j ≠ 0)) (fun i j => .int (i.fmod j)) S (.int i) (.int j) = some (.int (i.fmod j)) := if_pos (decide_eq_true h)
theorem ev_pow {i j : Int} (h : cPow i j = true) : gIC cPow (fun i j => .int (i ^ j.toNat)) S (.int i) (.int j) = some (.int (i ^ j.toNat)) := if_pos h
theorem ev_lt {i j : Int} : gI (fun i j => .bl (decide (i < j))) S (.int i) (.int j) = some (.bl (decide (i < j))) := rfl
theorem ev_le {i j : Int} : gI (fun i j => .bl (decide (i ≤ j))) S (.int i) (.int j) = some (.bl (decide (i ≤ j))) := rfl
theorem ev_gt {i j : Int} : gI (fun i j => .bl (decide (j < i))) S (.int i) (.int j) = some (.bl (decide (j < i))) := rfl
theorem ev_ge {i j : Int} : gI (fun i j => .bl (decide (j ≤ i))) S (.int i) (.int j) = some (.bl (decide (j ≤ i))) := rfl
theorem ev_neg {i : Int} : gNeg S (.int i) = some (.int (-i)) := rfl
theorem ev_eqI {i j : Int} : gEq S (.int i) (.int j) = some (.bl (decide (i = j))) := rfl
theorem ev_neI {i j : Int} : gNe S (.int i) (.int j) = some (.bl (!decide (i = j))) := rfl
theorem ev_isN {x : D} : gIsN S x .non = some (.bl (isNon x)) := rfl
theorem ev_isntN {x : D} : gIsntN S x .non = some (.bl (!isNon x)) := rfl
theorem ev_nonN : isNon .non = true := rfl
theorem ev_nonT {l : List D} : isNon (.tup l) = false := rfl
theorem ev_nonL {l : List D} : isNon (.lst l) = false := rfl
theorem ev_nonI {l : Int} : isNon (.int l) = false := rfl
theorem ev_nonB {l : Bool} : isNon (.bl l) = false := rfl
theorem ev_nonS {l : Str} : isNon (.str l) = false := rfl
theorem ev_nonR {l : Nat} : isNon (.ref l) = false := rfl

/-! ### items -/
theorem ev_subT {l : List D} {i : Int} : gSub S (.tup l) (.int i) = atI l i := rfl
theorem ev_subL {l : List D} {i : Int} : gSub S (.lst l) (.int i) = atI l i := rfl
theorem ev_subSc {l : List D} {i : Int} : gSub S (.scr l) (.int i) = atI l i := rfl
theorem sub_ref {n : Nat} {l : List D} {i : Int} (h : S[n]? = some (.lst l)) : gSub S (.ref n) (.int i) = atI l i := by
  unfold gSub dicOf gIx itemsOf; simp only [h]
theorem sub_dic {n : Nat} {l : List (Key × D)} {i : Int} (h : S[n]? = some (.dic l)) : gSub S (.ref n) (.int i) = (l.find? fun p => decide (p.1 = .inl i)).map (·.2) := by
  unfold gSub dicOf; simp only [h]; rfl
theorem atI_nat {l : List α} {i : Nat} : atI l (i : Int) = l[i]? := by
  unfold atI ixN
  rw [if_pos (Int.natCast_nonneg i)]
  by_cases h : i < l.length
  · rw [if_pos (by omega)]; rfl
  · rw [if_neg (by omega), List.getElem?_eq_none (by omega)]; rfl
theorem ev_at0 {a : α} {l : List α} : atI (a :: l) 0 = some a := by
  have := atI_nat (l := a :: l) (i := 0); exact this
theorem ev_at1 {a b : α} {l : List α} : atI (a :: b :: l) 1 = some b := by
  have := atI_nat (l := a :: b :: l) (i := 1); exact this
theorem ev_at2 {a b c : α} {l : List α} : atI (a :: b :: c :: l) 2 = some c := by
  have := atI_nat (l := a :: b :: c :: l) (i := 2); exact this
theorem ev_at3 {a b c d : α} {l : List α} : atI (a :: b :: c :: d :: l) 3 = some d := by
  have := atI_nat (l := a :: b :: c :: d :: l) (i := 3); exact this
theorem ev_lenT {l : List D} : gLen S [.tup l] = some (.int l.length) := rfl
theorem ev_lenL {l : List D} : gLen S [.lst l] = some (.int l.length) := rfl
theorem ev_lenSc {l : List D} : gLen S [.scr l] = some (.int l.length) := rfl
theorem ev_lenUT {l : List D} : gLenU S [.tup l] = some (.int l.length) := rfl
theorem ev_lenUL {l : List D} : gLenU S [.lst l] = some (.int l.length) := rfl
theorem ev_lenUSc {l : List D} : gLenU S [.scr l] = some (.int l.length) := rfl
theorem len_ref {n : Nat} {l : List D} (h : S[n]? = some (.lst l)) : gLen S [.ref n] = some (.int l.length) := by
  unfold gLen itemsOf; simp only [h]; rfl
theorem ev_abs {i : Int} : gAbs S [.int i] = some (.int (if i < 0 then -i else i)) := rfl
theorem ev_max2 {i j : Int} : gMax2 S [.int i, .int j] = some (.int (if j > i then j else i)) := rfl
theorem ev_min2 {i j : Int} : gMin2 S [.int i, .int j] = some (.int (if j < i then j else i)) := rfl
theorem ev_intI {i : Int} : gInt S [.int i] = some (.int i) := rfl
theorem ev_intB {b : Bool} : gInt S [.bl b] = some (.int (if b then 1 else 0)) := rfl
theorem ev_tupT {l : List D} : gTuple S [.tup l] = some (.tup l) := rfl
theorem ev_tupL {l : List D} : gTuple S [.lst l] = some (.tup l) := rfl
theorem ev_tupSc {l : List D} : gTuple S [.scr l] = some (.tup l) := rfl
theorem tup_ref {n : Nat} {l : List D} (h : S[n]? = some (.lst l)) : gTuple S [.ref n] = some (.tup l) := by
  unfold gTuple itemsOf; simp only [h]
theorem ev_caL {g : Store → List D → Option (List D)} {a : M (List D)} : mCaL g a e S = bnd (a e S) fun x S1 => fin (g S1 x) S1 := rfl
theorem ev_listT {l : List D} : gList S [.tup l] = some l := rfl
theorem ev_listL {l : List D} : gList S [.lst l] = some l := rfl
theorem ev_listSc {l : List D} : gList S [.scr l] = some l := rfl
theorem blsOf_map {xs : List α} {f : α → D} {p : α → Bool} (h : ∀ x ∈ xs, f x = .bl (p x)) : blsOf (xs.map f) = some (xs.map p) := by
  induction xs with
  | nil => rfl
  | cons x xs ih =>
    rw [List.map_cons, h x (List.mem_cons_self ..)]
    show (blsOf (xs.map f)).map _ = _
    rw [ih fun y hy => h y (List.mem_cons_of_mem _ hy)]
    rfl
theorem intsOf_map (xs : List Int) : intsOf (xs.map .int) = some xs := by
  induction xs with
  | nil => rfl
  | cons x xs ih =>
    show (intsOf (xs.map .int)).map _ = _
    rw [ih]
    rfl
theorem ev_blsOf (bs : List Bool) : blsOf (bs.map .bl) = some bs := by
  have := blsOf_map (xs := bs) (f := D.bl) (p := id) fun _ _ => rfl
  rw [this, List.map_id]
theorem ev_all {l : List D} : gAll S [.lst l] = (blsOf l).map fun bs => .bl (bs.all id) := rfl
theorem ev_any {l : List D} : gAny S [.lst l] = (blsOf l).map fun bs => .bl (bs.any id) := rfl
theorem ev_sum {l : List D} : gSum S [.lst l] = (intsOf l).map fun bs => .int bs.sum := rfl

/-! ### isinstance -/
theorem ev_tyI {i : Int} : tyName S (.int i) = some "int" := rfl
theorem ev_tyB {i : Bool} : tyName S (.bl i) = some "bool" := rfl
theorem ev_tyN : tyName S .non = some "NoneType" := rfl
theorem ev_tyS {i : Str} : tyName S (.str i) = some "str" := rfl
theorem ev_tyT {i : List D} : tyName S (.tup i) = some "tuple" := rfl
theorem ev_tyL {i : List D} : tyName S (.lst i) = some "list" := rfl
theorem ev_tySc {i : List D} : tyName S (.scr i) = some "list" := rfl
def isiR (r : Option String) (b : String) : Option D := match r with
  | some a => if kitOk a b then some (.bl (isT a b)) else none
  | none => none
theorem ev_isi {x : D} {b : String} : gIsi S [x, .ty b] = isiR (tyName S x) b := rfl
def isiTR (r : Option String) (ns : List String) (S : Store) : Out (D × Store) := match r with
  | some a => fin ((isTs a ns).map .bl) S
  | none => .none
theorem ev_isiT {m : M D} {ns : List String} : mIsiT m ns e S = bnd (m e S) fun x S1 => isiTR (tyName S1 x) ns S1 := rfl
theorem isiR_of {a b : String} {r : Bool} (h : kitOk a b = true) (h2 : isT a b = r) : isiR (some a) b = some (.bl r) := by
  unfold isiR; simp only [h, h2, if_pos]
theorem ev_isi_ii : isiR (some "int") "int" = some (.bl true) := isiR_of (by decide +kernel) (by decide +kernel)
theorem ev_isi_ib : isiR (some "int") "bool" = some (.bl false) := isiR_of (by decide +kernel) (by decide +kernel)
theorem ev_isi_bi : isiR (some "bool") "int" = some (.bl true) := isiR_of (by decide +kernel) (by decide +kernel)
theorem ev_isi_bb : isiR (some "bool") "bool" = some (.bl true) := isiR_of (by decide +kernel) (by decide +kernel)
theorem ev_isi_tt : isiR (some "tuple") "tuple" = some (.bl true) := isiR_of (by decide +kernel) (by decide +kernel)
theorem ev_isi_ti : isiR (some "tuple") "int" = some (.bl false) := isiR_of (by decide +kernel) (by decide +kernel)
theorem ev_isi_tb : isiR (some "tuple") "bool" = some (.bl false) := isiR_of (by decide +kernel) (by decide +kernel)
theorem ev_isi_tl : isiR (some "tuple") "list" = some (.bl false) := isiR_of (by decide +kernel) (by decide +kernel)
theorem ev_isi_ts : isiR (some "tuple") "str" = some (.bl false) := isiR_of (by decide +kernel) (by decide +kernel)
theorem ev_isi_li : isiR (some "list") "int" = some (.bl false) := isiR_of (by decide +kernel) (by decide +kernel)
theorem ev_isi_lb : isiR (some "list") "bool" = some (.bl false) := isiR_of (by decide +kernel) (by decide +kernel)
theorem ev_isi_ll : isiR (some "list") "list" = some (.bl true) := isiR_of (by decide +kernel) (by decide +kernel)
theorem ev_isi_lt : isiR (some "list") "tuple" = some (.bl false) := isiR_of (by decide +kernel) (by decide +kernel)
theorem ev_isi_ls : isiR (some "list") "str" = some (.bl false) := isiR_of (by decide +kernel) (by decide +kernel)
theorem ev_isi_it : isiR (some "int") "tuple" = some (.bl false) := isiR_of (by decide +kernel) (by decide +kernel)
theorem ev_isi_il : isiR (some "int") "list" = some (.bl false) := isiR_of (by decide +kernel) (by decide +kernel)
theorem ev_isi_is : isiR (some "int") "str" = some (.bl false) := isiR_of (by decide +kernel) (by decide +kernel)
theorem ev_isi_bt : isiR (some "bool") "tuple" = some (.bl false) := isiR_of (by decide +kernel) (by decide +kernel)
theorem ev_isi_bl : isiR (some "bool") "list" = some (.bl false) := isiR_of (by decide +kernel) (by decide +kernel)
theorem ev_isi_bs : isiR (some "bool") "str" = some (.bl false) := isiR_of (by decide +kernel) (by decide +kernel)
theorem ev_isi_ni : isiR (some "NoneType") "int" = some (.bl false) := isiR_of (by decide +kernel) (by decide +kernel)
theorem ev_isi_nb : isiR (some "NoneType") "bool" = some (.bl false) := isiR_of (by decide +kernel) (by decide +kernel)
theorem ev_isi_nt : isiR (some "NoneType") "tuple" = some (.bl false) := isiR_of (by decide +kernel) (by decide +kernel)
theorem ev_isi_nl : isiR (some "NoneType") "list" = some (.bl false) := isiR_of (by decide +kernel) (by decide +kernel)
theorem ev_isi_ns : isiR (some "NoneType") "str" = some (.bl false) := isiR_of (by decide +kernel) (by decide +kernel)
theorem ev_isi_ss : isiR (some "str") "str" = some (.bl true) := isiR_of (by decide +kernel) (by decide +kernel)
theorem ev_isi_si : isiR (some "str") "int" = some (.bl false) := isiR_of (by decide +kernel) (by decide +kernel)
theorem ev_isi_sb : isiR (some "str") "bool" = some (.bl false) := isiR_of (by decide +kernel) (by decide +kernel)
theorem ev_isi_st : isiR (some "str") "tuple" = some (.bl false) := isiR_of (by decide +kernel) (by decide +kernel)
theorem ev_isi_sl : isiR (some "str") "list" = some (.bl false) := isiR_of (by decide +kernel) (by decide +kernel)
theorem ev_isis_t : isiTR (some "tuple") ["list", "tuple"] S = .some (.bl true, S) := by
  have : isTs "tuple" ["list", "tuple"] = some true := by decide +kernel
  unfold isiTR; simp only [this]; rfl
theorem ev_isis_l : isiTR (some "list") ["list", "tuple"] S = .some (.bl true, S) := by
  have : isTs "list" ["list", "tuple"] = some true := by decide +kernel
  unfold isiTR; simp only [this]; rfl
theorem ev_isis_i : isiTR (some "int") ["list", "tuple"] S = .some (.bl false, S) := by
  have : isTs "int" ["list", "tuple"] = some false := by decide +kernel
  unfold isiTR; simp only [this]; rfl
theorem ev_isis_b : isiTR (some "bool") ["list", "tuple"] S = .some (.bl false, S) := by
  have : isTs "bool" ["list", "tuple"] = some false := by decide +kernel
  unfold isiTR; simp only [this]; rfl
theorem ev_isis_n : isiTR (some "NoneType") ["list", "tuple"] S = .some (.bl false, S) := by
  have : isTs "NoneType" ["list", "tuple"] = some false := by decide +kernel
  unfold isiTR; simp only [this]; rfl
theorem ev_isis_s : isiTR (some "str") ["list", "tuple"] S = .some (.bl false, S) := by
  have : isTs "str" ["list", "tuple"] = some false := by decide +kernel
  unfold isiTR; simp only [this]; rfl
theorem ev_isbs_i : isiTR (some "int") ["bool", "str"] S = .some (.bl false, S) := by
  have : isTs "int" ["bool", "str"] = some false := by decide +kernel
  unfold isiTR; simp only [this]; rfl
theorem ev_isbs_b : isiTR (some "bool") ["bool", "str"] S = .some (.bl true, S) := by
  have : isTs "bool" ["bool", "str"] = some true := by decide +kernel
  unfold isiTR; simp only [this]; rfl
theorem ev_isbs_s : isiTR (some "str") ["bool", "str"] S = .some (.bl true, S) := by
  have : isTs "str" ["bool", "str"] = some true := by decide +kernel
  unfold isiTR; simp only [this]; rfl

/-! ### chains -/
def chainP (r : Option D) (o : Out (D × Store)) (S : Store) : Out (D × Store) := match r with
  | some (.bl true) => o
  | some (.bl false) => .some (.bl false, S)
  | _ => .none
theorem ev_chain {g g' : Store → D → D → Option D} {a b c : M D} : mChain g g' a b c e S = bnd (a e S) fun x S1 => bnd (b e S1) fun y S2 => chainP (g S2 x y) (bnd (c e S2) fun z S3 => fin (g' S3 y z) S3) S2 := rfl
theorem ev_chainP {b c : Bool} : chainP (some (.bl b)) (.some (.bl c, S)) S = .some (.bl (b && c), S) := by cases b <;> rfl
theorem ev_chainP_t {o : Out (D × Store)} : chainP (some (.bl true)) o S = o := rfl
theorem ev_chainP_f {o : Out (D × Store)} : chainP (some (.bl false)) o S = .some (.bl false, S) := rfl

/-! ### statements -/
theorem ev_snil : msNil e S = some (.nx e S) := rfl
theorem ev_brk : msBreak e S = some (.bk e S) := rfl
theorem ev_cont : msCont e S = some (.ct e S) := rfl
theorem ev_expr {m : M D} : msExpr m e S = bndS e (m e S) fun _ S1 => some (.nx e S1) := rfl
theorem ev_ret {m : M D} : msRet m e S = bndS e (m e S) fun d S1 => some (.rt d S1) := rfl
theorem ev_if {c : M Bool} {a b : MS} : msIf c a b e S = bndS e (c e S) fun k S1 => pick k (a e S1) (b e S1) := rfl
def asgP (r : Option Env) (S : Store) : Option SR := match r with
  | some e => some (.nx e S)
  | none => none
theorem ev_asg {m : M D} {tg : Tg} : msAsg m tg e S = bndS e (m e S) fun d S1 => asgP (tg d e) S1 := rfl
theorem ev_asgP : asgP (some e) S = some (.nx e S) := rfl
theorem ev_tgName {i : Nat} {d : D} : tgName i d e = some (e.set i (some d)) := rfl
theorem ev_set0 {α : Type} {x y : α} {e : List α} : List.set (x :: e) 0 y = y :: e := rfl
theorem ev_setS {α : Type} {x y : α} {e : List α} {i : Nat} : List.set (x :: e) (i + 1) y = x :: List.set e i y := rfl
def tupP (n : Nat) (r : Tgs) (l : List D) (e : Env) : Option Env := if l.length = n then r l e else none
theorem ev_tgTup {n : Nat} {r : Tgs} {l : List D} : tgTup n r (.tup l) e = tupP n r l e := rfl
theorem ev_tupP1 {r : Tgs} {a : D} : tupP 1 r [a] e = r [a] e := rfl
theorem ev_tupP2 {r : Tgs} {a b : D} : tupP 2 r [a, b] e = r [a, b] e := rfl
theorem ev_tupP3 {r : Tgs} {a b c : D} : tupP 3 r [a, b, c] e = r [a, b, c] e := rfl
theorem ev_tupP4 {r : Tgs} {a b c d : D} : tupP 4 r [a, b, c, d] e = r [a, b, c, d] e := rfl
def consP (o : Option Env) (r : Tgs) (ds : List D) : Option Env := match o with
  | some e1 => r ds e1
  | none => none
theorem ev_tgNil : tgNil [] e = some e := rfl
theorem ev_tgCons {a : Tg} {r : Tgs} {d : D} {ds : List D} : tgCons a r (d :: ds) e = consP (a d e) r ds := rfl
theorem ev_consP {r : Tgs} {ds : List D} : consP (some e) r ds = r ds e := rfl
theorem ev_par {i j : Nat} {a b : M D} : msPar i j (mCons a (mCons b mNil)) e S = bndS e (a e S) fun x S1 => bndS e (b e S1) fun y S2 => some (.nx ((e.set i (some x)).set j (some y)) S2) := by
  unfold msPar mCons mNil
  cases a e S with
  | none => rfl
  | err x S1 => rfl
  | some p =>
    obtain ⟨x, S1⟩ := p
    show bndS e (bnd (bnd (b e S1) _) _) _ = bndS e (b e S1) _
    cases b e S1 with
    | none => rfl
    | err x S1 => rfl
    | some p => rfl
theorem ev_par3 {i j l : Nat} {a b c : M D} : msPar3 i j l (mCons a (mCons b (mCons c mNil))) e S = bndS e (a e S) fun x S1 => bndS e (b e S1) fun y S2 => bndS e (c e S2) fun z S3 => some (.nx (((e.set i (some x)).set j (some y)).set l (some z)) S3) := by
  unfold msPar3 mCons mNil
  cases a e S with
  | none => rfl
  | err x S1 => rfl
  | some p =>
    obtain ⟨x, S1⟩ := p
    show bndS e (bnd (bnd (b e S1) _) _) _ = bndS e (b e S1) _
    cases b e S1 with
    | none => rfl
    | err x S1 => rfl
    | some p =>
      obtain ⟨y, S2⟩ := p
      show bndS e (bnd (bnd (bnd (c e S2) _) _) _) _ = bndS e (c e S2) _
      cases c e S2 with
      | none => rfl
      | err x S1 => rfl
      | some p => rfl
def augP (r : Option D) (i : Nat) (e : Env) (S : Store) : Option SR := match r with
  | some z => some (.nx (e.set i (some z)) S)
  | none => none
theorem ev_augP {i : Nat} {z : D} : augP (some z) i e S = some (.nx (e.set i (some z)) S) := rfl
/-- the slot's value ahead -/
def augQ (x : Option (Option D)) (i : Nat) (g : Store → D → D → Option D) (m : M D) (e : Env) (S : Store) : Option SR := match x with
  | some (some x) => bndS e (m e S) fun y S1 => augP (g S1 x y) i e S1
  | _ => none
theorem ev_aug {i : Nat} {g : Store → D → D → Option D} {m : M D} : msAug i g m e S = augQ e[i]? i g m e S := rfl
theorem ev_augQ {x : D} {i : Nat} {g : Store → D → D → Option D} {m : M D} : augQ (some (some x)) i g m e S = bndS e (m e S) fun y S1 => augP (g S1 x y) i e S1 := rfl
theorem ev_get0 {α : Type} {x : α} {e : List α} : (x :: e)[0]? = some x := rfl
theorem ev_getS {α : Type} {x : α} {e : List α} {i : Nat} : (x :: e)[i + 1]? = e[i]? := List.getElem?_cons_succ
def setP (r : Option Store) (e : Env) : Option SR := match r with
  | some S => some (.nx e S)
  | none => none
theorem ev_setP : setP (some S) e = some (.nx e S) := rfl
theorem ev_mset {mv mo mi : M D} : msSet mv mo mi e S = bndS e (mv e S) fun v S1 => bndS e (mo e S1) fun o S2 => bndS e (mi e S2) fun i S3 => setP (gSet S3 o i v) e := rfl
theorem ev_raise {x : XV} : msRaise x e S = some (.ex x e S) := rfl
def forP (n : Nat) (tg : Tg) (b : MS) (e : Env) (src : Src) (S : Store) : Option SR := match src with
  | .fix ds => forL tg b ds e S
  | .dyn f => forD f tg b n 0 e S
theorem ev_for {n : Nat} {mi : M Src} {tg : Tg} {b : MS} : msFor n mi tg b e S = bndS e (mi e S) (forP n tg b e) := rfl
theorem ev_forP {n : Nat} {tg : Tg} {b : MS} {ds : List D} : forP n tg b e (.fix ds) S = forL tg b ds e S := rfl
theorem ev_forPd {n : Nat} {tg : Tg} {b : MS} {f : Nat → Store → Option (Option D)} : forP n tg b e (.dyn f) S = forD f tg b n 0 e S := rfl
theorem ev_while {n : Nat} {c : M Bool} {b : MS} : msWhile n c b e S = runWhile c b n e S := rfl
theorem ev_forEnd_nx {k : Env → Store → Option SR} : forEnd (some (.nx e S)) k = k e S := rfl
theorem ev_forEnd_ct {k : Env → Store → Option SR} : forEnd (some (.ct e S)) k = k e S := rfl
theorem ev_forEnd_bk {k : Env → Store → Option SR} : forEnd (some (.bk e S)) k = some (.nx e S) := rfl
theorem ev_forEnd_rt {k : Env → Store → Option SR} {d : D} : forEnd (some (.rt d S)) k = some (.rt d S) := rfl

/-! ### what is walked -/
def seqI (x : D) (S : Store) : Out (Src × Store) := match x with
  | .str s => .some (.fix (signs s), S)
  | x => (match itemsOf S x with
    | some _ => .some (seqSrc x, S)
    | none => .none)
theorem ev_seqI {m : M D} : mSeqI m e S = bnd (m e S) seqI := rfl
theorem ev_seqI_t {l : List D} : seqI (.tup l) S = .some (.fix l, S) := rfl
theorem ev_seqI_l {l : List D} : seqI (.lst l) S = .some (.fix l, S) := rfl
theorem ev_seqI_sc {l : List D} : seqI (.scr l) S = .some (.fix l, S) := rfl
theorem ev_seqI_s {s : Str} : seqI (.str s) S = .some (.fix (signs s), S) := rfl
theorem seqI_ref {n : Nat} {l : List D} (h : S[n]? = some (.lst l)) : seqI (.ref n) S = .some (.dyn (seqNow (.ref n)), S) := by
  unfold seqI itemsOf; simp only [h]; rfl
def twoI (ds : List D) (S : Store) : Out (Src × Store) := match ds with
  | [x, y] => (match itemsOf S x, itemsOf S y with
    | some _, some _ => .some (twoSrc x y, S)
    | _, _ => .none)
  | _ => .none
theorem ev_twoI {m : M (List D)} : mTwoI m e S = bnd (m e S) twoI := rfl
theorem ev_twoI_tt {l r : List D} : twoI [.tup l, .tup r] S = .some (.fix (zipD l r), S) := rfl
theorem ev_twoI_tl {l r : List D} : twoI [.tup l, .lst r] S = .some (.fix (zipD l r), S) := rfl
theorem ev_twoI_lt {l r : List D} : twoI [.lst l, .tup r] S = .some (.fix (zipD l r), S) := rfl
theorem ev_twoI_ll {l r : List D} : twoI [.lst l, .lst r] S = .some (.fix (zipD l r), S) := rfl
def numI (ds : List D) (S : Store) : Out (Src × Store) := match ds with
  | [x] => (match itemsOf S x with
    | some _ => .some (numSrc x, S)
    | _ => .none)
  | _ => .none
theorem ev_numI {m : M (List D)} : mNumI m e S = bnd (m e S) numI := rfl
theorem ev_numI_t {l : List D} : numI [.tup l] S = .some (.fix (numD 0 l), S) := rfl
theorem ev_numI_l {l : List D} : numI [.lst l] S = .some (.fix (numD 0 l), S) := rfl
theorem ev_numI_sc {l : List D} : numI [.scr l] S = .some (.fix (numD 0 l), S) := rfl
def rng1 (ds : List D) (S : Store) : Out (Src × Store) := match ds with
  | [.int j] => if smI j then .some (.fix (rngD 0 j.toNat), S) else .none
  | _ => .none
theorem ev_rng1 {m : M (List D)} : mRng1 m e S = bnd (m e S) rng1 := rfl
theorem rng1_of {j : Int} (h : smI j = true) : rng1 [.int j] S = .some (.fix (rngD 0 j.toNat), S) := if_pos h
theorem smI_of {j : Int} (h : 0 ≤ j) (h2 : j < 4611686018427387904) : smI j = true := by
  unfold smI
  rw [Bool.and_eq_true]
  exact ⟨decide_eq_true (by omega), decide_eq_true (by omega)⟩
theorem rng1_nat {j : Nat} (h : j < 4611686018427387904) : rng1 [.int (j : Int)] S = .some (.fix (rngD 0 j), S) := by
  rw [rng1_of (smI_of (by omega) (by omega)), Int.toNat_natCast]
theorem rngD_map {n : Nat} : rngD 0 n = (List.range n).map fun i => .int (i : Int) := by
  unfold rngD
  simp only [Int.zero_add]
theorem numD_map {enc : α → D} : ∀ {l : List α} {k : Nat}, numD k (l.map enc) = (l.zipIdx k).map fun p => .tup [.int (p.2 : Int), enc p.1]
  | [], k => rfl
  | a :: l, k => by
    show _ :: numD (k + 1) (l.map enc) = _
    rw [numD_map]
    rfl
theorem zipD_map {f : α → D} {g : β → D} : ∀ {l : List α} {r : List β}, zipD (l.map f) (r.map g) = (l.zip r).map fun p => .tup [f p.1, g p.2]
  | [], r => rfl
  | a :: l, [] => rfl
  | a :: l, b :: r => by
    show _ :: zipD (l.map f) (r.map g) = _
    rw [zipD_map]
    rfl

/-! ### comprehensions -/
def runC (n : Nat) (vs : List Nat) (tg : Tg) (mt : M Bool) (me : M D) (e : Env) (src : Src) (S : Store) : Out (List D × Store) :=
  bnd (match src with
    | .fix ds => compL tg mt me (wipeE e vs) ds S
    | .dyn f => compD f tg mt me (wipeE e vs) n 0 S) fits
theorem ev_lc {n : Nat} {vs : List Nat} {mi : M Src} {tg : Tg} {mt : M Bool} {me : M D} : mLc n vs mi tg mt me e S = bnd (mi e S) (runC n vs tg mt me e) := rfl
theorem ev_runC {n : Nat} {vs : List Nat} {tg : Tg} {mt : M Bool} {me : M D} {ds : List D} : runC n vs tg mt me e (.fix ds) S = bnd (compL tg mt me (wipeE e vs) ds S) fits := rfl
theorem ev_runCd {n : Nat} {vs : List Nat} {tg : Tg} {mt : M Bool} {me : M D} {f : Nat → Store → Option (Option D)} : runC n vs tg mt me e (.dyn f) S = bnd (compD f tg mt me (wipeE e vs) n 0 S) fits := rfl
theorem ev_wipe0 : wipeE e [] = e := rfl
theorem ev_wipeS {v : Nat} {vs : List Nat} : wipeE e (v :: vs) = (wipeE e vs).set v none := rfl
theorem ev_yes : mYes e S = .some (true, S) := rfl
theorem fits_of {l : List D} (h : l.length ≤ sizeLine) : fits l S = .some (l, S) := if_pos h
/-- a comprehension whose test and item change nothing -/
theorem compL_pure {tg : Tg} {mt : M Bool} {me : M D} {e0 : Env} {enc : α → D} {p : α → Bool} {f : α → D} : ∀ {xs : List α}, (∀ x ∈ xs, ∃ e1, tg (enc x) e0 = some e1 ∧ mt e1 S = .some (p x, S) ∧ (p x = true → me e1 S = .some (f x, S))) →
    compL tg mt me e0 (xs.map enc) S = .some ((xs.filter p).map f, S)
  | [], _ => rfl
  | x :: xs, h => by
    obtain ⟨e1, h1, h2, h3⟩ := h x (List.mem_cons_self ..)
    have ih := compL_pure (tg := tg) (mt := mt) (me := me) (e0 := e0) (enc := enc) (p := p) (f := f) fun y hy => h y (List.mem_cons_of_mem _ hy)
    show (match tg (enc x) e0 with
      | none => _
      | some e1 => _) = _
    rw [h1]
    show compEnd (mt e1 S) (me e1) _ = _
    rw [h2]
    unfold compEnd
    cases hp : p x with
    | true =>
      show bndN (me e1 S) _ = _
      rw [h3 hp]
      show bndN (compL tg mt me e0 (xs.map enc) S) _ = _
      rw [ih, List.filter_cons, if_pos hp]
      rfl
    | false =>
      show compL tg mt me e0 (xs.map enc) S = _
      rw [ih, List.filter_cons, if_neg (by rw [hp]; exact Bool.false_ne_true)]
theorem filter_true {xs : List α} : xs.filter (fun _ => true) = xs := List.filter_eq_self.mpr fun _ _ => rfl
theorem compL_all {tg : Tg} {me : M D} {e0 : Env} {enc : α → D} {f : α → D} {xs : List α} (h : ∀ x ∈ xs, ∃ e1, tg (enc x) e0 = some e1 ∧ me e1 S = .some (f x, S)) : compL tg mYes me e0 (xs.map enc) S = .some (xs.map f, S) := by
  rw [compL_pure (p := fun _ => true) (f := f) fun x hx => let ⟨e1, a, b⟩ := h x hx; ⟨e1, a, rfl, fun _ => b⟩, filter_true]

/-! ### calls -/
def callT (n : Nat) (F : Fn) (ds : List D) (S : Store) : Out (D × Store) := if ds.length = n then F ds S else .none
def callP (n : Nat) (F : Fn) (ds : List D) (S : Store) : Out (D × Store) := if ds.length = n ∧ noRefs ds = true then pureR 40 S (F ds []) else .none
theorem ev_callT {n : Nat} {F : Fn} {m : M (List D)} : mCall n F m e S = bnd (m e S) (callT n F) := rfl
theorem ev_callP {n : Nat} {F : Fn} {m : M (List D)} : mCallP n F m e S = bnd (m e S) (callP n F) := rfl
theorem ev_app {a b : M (List D)} : mApp a b e S = bnd (a e S) fun x S1 => bnd (b e S1) fun y S2 => .some (x ++ y, S2) := rfl
def lenP (n : Nat) (ds : List D) (S : Store) : Out (List D × Store) := if ds.length = n then .some (ds, S) else .none
theorem ev_mlen {n : Nat} {m : M (List D)} : mLen n m e S = bnd (m e S) (lenP n) := rfl
theorem ev_lenP0 : lenP 0 [] S = .some ([], S) := rfl
theorem ev_lenP1 {a : D} : lenP 1 [a] S = .some ([a], S) := rfl
theorem ev_lenP2 {a b : D} : lenP 2 [a, b] S = .some ([a, b], S) := rfl
theorem callT_of {n : Nat} {F : Fn} {ds : List D} {r : Out (D × Store)} (hl : ds.length = n) (h : F ds S = r) : callT n F ds S = r := by
  unfold callT; rw [if_pos hl]; exact h
theorem callP_of {n : Nat} {F : Fn} {ds : List D} {d : D} (hl : ds.length = n) (hn : noRefs ds = true) (h : F ds [] = .some (d, S2)) (hd : noRef d = true) : callP n F ds S = .some (d, S) := by
  unfold callP
  rw [if_pos ⟨hl, hn⟩, h]
  unfold pureR
  simp only [conv_nr hd]
/-- the answer holds the callee's own lists -/
theorem callP_conv {n : Nat} {F : Fn} {ds : List D} {d d' : D} (hl : ds.length = n) (hn : noRefs ds = true) (h : F ds [] = .some (d, S2)) (hd : conv S2 40 d = some d') : callP n F ds S = .some (d', S) := by
  unfold callP
  rw [if_pos ⟨hl, hn⟩, h]
  unfold pureR
  simp only [hd]
theorem mkF_rt {N : Nat} {b : MS} {ds : List D} {d : D} (h : b (startE N ds) S = some (.rt d S1)) : mkF N b ds S = .some (d, S1) := by
  unfold mkF; rw [h]
theorem mkF_ex {N : Nat} {b : MS} {ds : List D} {x : XV} (h : b (startE N ds) S = some (.ex x e S1)) : mkF N b ds S = .err x S1 := by
  unfold mkF; rw [h]
theorem nr_int {i : Int} : noRef (.int i) = true := rfl
theorem nr_non : noRef .non = true := rfl
theorem nr_bl {b : Bool} : noRef (.bl b) = true := rfl
theorem nr_str {s : Str} : noRef (.str s) = true := rfl
theorem nr_tup {l : List D} : noRef (.tup l) = noRefs l := by rw [noRef]
theorem nr_lst {l : List D} : noRef (.lst l) = noRefs l := by rw [noRef]
theorem nr_scr {l : List D} : noRef (.scr l) = noRefs l := by rw [noRef]
theorem nrs_nil : noRefs [] = true := by rw [noRefs, noRef.noRefs]
theorem nrs_cons {d : D} {l : List D} : noRefs (d :: l) = (noRef d && noRefs l) := by rw [noRefs, noRef.noRefs]
theorem nrs_map {f : α → D} : ∀ {l : List α}, (∀ x ∈ l, noRef (f x) = true) → noRefs (l.map f) = true
  | [], _ => nrs_nil
  | a :: l, h => by
    rw [List.map_cons, nrs_cons, h a (List.mem_cons_self ..), nrs_map fun x hx => h x (List.mem_cons_of_mem _ hx)]
    rfl
theorem nrs_ints {l : List Int} : noRefs (l.map .int) = true := nrs_map fun _ _ => rfl

/-! ### loops -/
theorem forL_cons {tg : Tg} {b : MS} {d : D} {ds : List D} (h : tg d e = some e1) : forL tg b (d :: ds) e S = forEnd (b e1 S) fun e2 S2 => forL tg b ds e2 S2 := by
  show (match tg d e with
    | none => none
    | some e1 => forEnd (b e1 S) fun e2 S2 => forL tg b ds e2 S2) = _
  rw [h]
theorem ev_forL_nil {tg : Tg} {b : MS} : forL tg b [] e S = some (.nx e S) := rfl
/-- a loop that goes on to its end, by an invariant over the items that are left -/
theorem forL_inv {tg : Tg} {b : MS} {enc : α → D} (I : List α → Env → Store → Prop)
    (step : ∀ x xs e S, I (x :: xs) e S → ∃ e1, tg (enc x) e = some e1 ∧ ∃ e2 S2, (b e1 S = some (.nx e2 S2) ∨ b e1 S = some (.ct e2 S2)) ∧ I xs e2 S2) :
    ∀ (xs : List α) (e : Env) (S : Store), I xs e S → ∃ e2 S2, forL tg b (xs.map enc) e S = some (.nx e2 S2) ∧ I [] e2 S2
  | [], e, S, h => ⟨e, S, rfl, h⟩
  | x :: xs, e, S, h => by
    obtain ⟨e1, h1, e2, S2, h2, h3⟩ := step x xs e S h
    obtain ⟨e3, S3, h4, h5⟩ := forL_inv I step xs e2 S2 h3
    refine ⟨e3, S3, ?_, h5⟩
    rw [List.map_cons, forL_cons h1]
    rcases h2 with h2 | h2 <;> rw [h2] <;> exact h4
theorem runWhile_step {c : M Bool} {b : MS} {n : Nat} : runWhile c b (n + 1) e S = bndS e (c e S) fun k S1 => pick k (forEnd (b e S1) (runWhile c b n)) (some (.nx e S1)) := rfl
/-- a while by an invariant with a measure that falls -/
theorem runWhile_inv {c : M Bool} {b : MS} (I : Nat → Env → Store → Prop)
    (step : ∀ m e S, I m e S → (c e S = .some (false, S)) ∨ (c e S = .some (true, S) ∧ ∃ e2 S2 m2, m2 < m ∧ (b e S = some (.nx e2 S2) ∨ b e S = some (.ct e2 S2)) ∧ I m2 e2 S2)) :
    ∀ (n m : Nat) (e : Env) (S : Store), m < n → I m e S → ∃ e2 S2 m2, runWhile c b n e S = some (.nx e2 S2) ∧ c e2 S2 = .some (false, S2) ∧ I m2 e2 S2
  | 0, m, e, S, h, _ => absurd h (Nat.not_lt_zero m)
  | n + 1, m, e, S, h, hi => by
    rw [runWhile_step]
    rcases step m e S hi with h1 | ⟨h1, e2, S2, m2, hm, h2, h3⟩
    · exact ⟨e, S, m, by rw [h1]; rfl, h1, hi⟩
    · obtain ⟨e3, S3, m3, h4, h5, h6⟩ := runWhile_inv I step n m2 e2 S2 (by omega) h3
      refine ⟨e3, S3, m3, ?_, h5, h6⟩
      rw [h1]
      show forEnd (b e S) _ = _
      rcases h2 with h2 | h2 <;> rw [h2] <;> exact h4
end
theorem ev_start0 {n : Nat} : startE n [] = List.replicate n none := rfl
theorem ev_startS {n : Nat} {d : D} {ds : List D} : startE (n + 1) (d :: ds) = some d :: startE n ds := by
  unfold startE
  rw [List.map_cons, List.length_cons, Nat.add_sub_add_right]
  rfl
theorem ev_repl0 {α : Type} {a : α} : List.replicate 0 a = [] := rfl
theorem ev_replS {α : Type} {n : Nat} {a : α} : List.replicate (n + 1) a = a :: List.replicate n a := rfl
theorem callP_def {n N : Nat} {F : Fn} {b : MS} {ds : List D} {d : D} {S S2 : Store} (hF : F = mkF N b) (hl : ds.length = n) (hn : noRefs ds = true) (h : b (startE N ds) [] = some (.rt d S2)) (hd : noRef d = true) : callP n F ds S = .some (d, S) := by
  subst hF
  exact callP_of hl hn (mkF_rt h) hd
theorem callT_def {n N : Nat} {F : Fn} {b : MS} {ds : List D} {d : D} {S S2 : Store} (hF : F = mkF N b) (hl : ds.length = n) (h : b (startE N ds) S = some (.rt d S2)) : callT n F ds S = .some (d, S2) := by
  subst hF
  exact callT_of hl (mkF_rt h)
/-- a comprehension whose items are made one behind the other, by an invariant of the store -/
theorem compL_inv {α : Type} {tg : Tg} {me : M D} {e0 : Env} {enc : α → D} (I : List α → Store → Prop) (R : α → D → Prop)
    (step : ∀ x xs S, I (x :: xs) S → ∃ e1, tg (enc x) e0 = some e1 ∧ ∃ y S2, me e1 S = .some (y, S2) ∧ R x y ∧ I xs S2) :
    ∀ (xs : List α) (S : Store), I xs S → ∃ ys S2, compL tg mYes me e0 (xs.map enc) S = .some (ys, S2) ∧ I [] S2 ∧ ys.length = xs.length ∧ (∀ (i : Nat) x y, xs[i]? = some x → ys[i]? = some y → R x y)
  | [], S, h => ⟨[], S, rfl, h, rfl, fun i x y e => by cases e⟩
  | x :: xs, S, h => by
    obtain ⟨e1, h1, y, S2, h2, h3, h4⟩ := step x xs S h
    obtain ⟨ys, S3, h5, h6, h7, h8⟩ := compL_inv I R step xs S2 h4
    refine ⟨y :: ys, S3, ?_, h6, by rw [List.length_cons, List.length_cons, h7], fun i a b ea eb => ?_⟩
    · rw [List.map_cons]
      show (match tg (enc x) e0 with
        | none => _
        | some e1 => _) = _
      rw [h1]
      show bndN (me e1 S) _ = _
      rw [h2]
      show bndN (compL tg mYes me e0 (xs.map enc) S2) _ = _
      rw [h5]
      rfl
    · cases i with
      | zero =>
        have ea := Option.some.inj ea
        have eb := Option.some.inj eb
        subst ea eb
        exact h3
      | succ i => exact h8 i a b (by simpa using ea) (by simpa using eb)
/-! ### a block that ends well -/
def Sat (r : Option SR) (Q : SR → Prop) : Prop := ∃ x, r = some x ∧ Q x
theorem sat_some {x : SR} {Q : SR → Prop} : Sat (some x) Q ↔ Q x := ⟨fun ⟨y, h, q⟩ => by rw [Option.some.inj h]; exact q, fun h => ⟨x, rfl, h⟩⟩
theorem seqS_id {r : Option SR} : seqS r msNil = r := by
  cases r with
  | none => rfl
  | some x => cases x <;> rfl
theorem callP_sat {n N : Nat} {F : Fn} {b : MS} {ds : List D} {S : Store} {Q : D → Prop} (hF : F = mkF N b) (hl : ds.length = n) (hn : noRefs ds = true)
    (h : Sat (b (startE N ds) []) fun r => ∃ d S2, r = .rt d S2 ∧ noRef d = true ∧ Q d) : ∃ d, callP n F ds S = .some (d, S) ∧ Q d := by
  obtain ⟨r, h1, d, S2, rfl, h2, h3⟩ := h
  exact ⟨d, callP_def hF hl hn h1 h2, h3⟩
/-- the answer's own lists are frozen -/
theorem callP_satc {n N : Nat} {F : Fn} {b : MS} {ds : List D} {S : Store} {Q : D → Prop} (hF : F = mkF N b) (hl : ds.length = n) (hn : noRefs ds = true)
    (h : Sat (b (startE N ds) []) fun r => ∃ d S2 d', r = .rt d S2 ∧ conv S2 40 d = some d' ∧ Q d') : ∃ d, callP n F ds S = .some (d, S) ∧ Q d := by
  obtain ⟨r, h1, d, S2, d', rfl, h2, h3⟩ := h
  subst hF
  exact ⟨d', callP_conv hl hn (mkF_rt h1) h2, h3⟩
theorem callT_sat {n N : Nat} {F : Fn} {b : MS} {ds : List D} {S : Store} {Q : D → Store → Prop} (hF : F = mkF N b) (hl : ds.length = n)
    (h : Sat (b (startE N ds) S) fun r => ∃ d S2, r = .rt d S2 ∧ Q d S2) : ∃ d S2, callT n F ds S = .some (d, S2) ∧ Q d S2 := by
  obtain ⟨r, h1, d, S2, rfl, h3⟩ := h
  exact ⟨d, S2, callT_def hF hl h1, h3⟩
/-- what a turn of a loop may come to; I: how it goes on, k: what stands behind the loop -/
def Turned (I : Env → Store → Prop) (k : MS) (Q : SR → Prop) : SR → Prop
  | .nx e S => I e S
  | .ct e S => I e S
  | .bk e S => Sat (k e S) Q
  | .rt d S => Q (.rt d S)
  | .ex x e S => Q (.ex x e S)
theorem sat_for {α : Type} {tg : Tg} {b k : MS} {enc : α → D} {Q : SR → Prop} (I : List α → Env → Store → Prop)
    (step : ∀ x xs e S, I (x :: xs) e S → ∃ e1, tg (enc x) e = some e1 ∧ Sat (b e1 S) (Turned (I xs) k Q)) (end_ : ∀ e S, I [] e S → Sat (k e S) Q) :
    ∀ (xs : List α) (e : Env) (S : Store), I xs e S → Sat (seqS (forL tg b (xs.map enc) e S) k) Q
  | [], e, S, h => end_ e S h
  | x :: xs, e, S, h => by
    obtain ⟨e1, h1, r, h2, h3⟩ := step x xs e S h
    rw [List.map_cons, forL_cons h1, h2]
    cases r with
    | nx e2 S2 => exact sat_for I step end_ xs e2 S2 h3
    | ct e2 S2 => exact sat_for I step end_ xs e2 S2 h3
    | bk e2 S2 => exact h3
    | rt d S2 => exact sat_some.mpr h3
    | ex x e2 S2 => exact sat_some.mpr h3
theorem sat_while {c : M Bool} {b k : MS} {Q : SR → Prop} (I : Nat → Env → Store → Prop)
    (step : ∀ m e S, I m e S → (c e S = .some (false, S) ∧ Sat (k e S) Q) ∨ (c e S = .some (true, S) ∧ Sat (b e S) (Turned (fun e2 S2 => ∃ m2, m2 < m ∧ I m2 e2 S2) k Q))) :
    ∀ (n m : Nat) (e : Env) (S : Store), m < n → I m e S → Sat (seqS (runWhile c b n e S) k) Q
  | 0, m, e, S, h, _ => absurd h (Nat.not_lt_zero m)
  | n + 1, m, e, S, h, hi => by
    rw [runWhile_step]
    rcases step m e S hi with ⟨h1, h2⟩ | ⟨h1, r, h2, h3⟩
    · rw [h1]; exact h2
    · rw [h1]
      show Sat (seqS (forEnd (b e S) (runWhile c b n)) k) Q
      rw [h2]
      cases r with
      | nx e2 S2 => obtain ⟨m2, hm, h3⟩ := h3; exact sat_while I step n m2 e2 S2 (by omega) h3
      | ct e2 S2 => obtain ⟨m2, hm, h3⟩ := h3; exact sat_while I step n m2 e2 S2 (by omega) h3
      | bk e2 S2 => exact h3
      | rt d S2 => exact sat_some.mpr h3
      | ex x e2 S2 => exact sat_some.mpr h3
/-- calls that only look -/
def callR (n : Nat) (F : Fn) (ds : List D) (S : Store) : Out (D × Store) := match ds.mapM (conv S 40) with
  | some ds' => if ds'.length = n then lookR 40 S (F ds' []) else .none
  | none => .none
theorem ev_callR {n : Nat} {F : Fn} {m : M (List D)} {e : Env} {S : Store} : mCallR n F m e S = bnd (m e S) (callR n F) := rfl
theorem callR_of {n : Nat} {F : Fn} {ds ds' : List D} {d : D} {S S2 : Store} (hc : ds.mapM (conv S 40) = some ds') (hl : ds'.length = n) (h : F ds' [] = .some (d, S2)) (hd : noLst d = true) : callR n F ds S = .some (d, S) := by
  unfold callR
  rw [hc]
  show (if ds'.length = n then lookR 40 S (F ds' []) else .none) = _
  rw [if_pos hl, h]
  unfold lookR
  exact if_pos hd
/-- loops over the numbers of a range -/
theorem sat_conseq {r : Option SR} {Q Q' : SR → Prop} (h : Sat r Q) (i : ∀ x, Q x → Q' x) : Sat r Q' := let ⟨x, a, b⟩ := h; ⟨x, a, i x b⟩
/-! ### owned objects -/
section
variable {S : Store} {n : Nat} {e : Env}
def look (l : List (Key × D)) (k : Key) : Option D := (l.find? fun p => decide (p.1 = k)).map (·.2)
def subR (o : Option O) (y : D) : Option D := match o with
  | some (.lst l) => (match y with
    | .int i => atI l i
    | _ => none)
  | some (.dic l) => (keyOf y).bind fun k => look l k
  | some (.dlk l) => (keyOf y).bind fun k => look l k
  | none => none
theorem ev_sub_ref {y : D} : gSub S (.ref n) y = subR S[n]? y := by
  unfold gSub dicOf gIx itemsOf subR look
  cases hS : S[n]? with
  | none => first | rfl | (simp only [hS]; done) | simp [hS]
  | some o => cases o <;> cases y <;> first | rfl | (simp only [hS]; done) | (simp only [hS]; rfl) | simp [hS]
theorem ev_subR_l {l : List D} {i : Int} : subR (some (.lst l)) (.int i) = atI l i := rfl
theorem ev_subR_d {l : List (Key × D)} {i : Int} : subR (some (.dic l)) (.int i) = look l (.inl i) := rfl
theorem ev_subR_k {l : List (Key × D)} {i : Int} : subR (some (.dlk l)) (.int i) = look l (.inl i) := rfl
theorem ev_subR_ds {l : List (Key × D)} {i : Str} : subR (some (.dic l)) (.str i) = look l (.inr i) := rfl
def itemsR (o : Option O) : Option (Bool × List D) := match o with
  | some (.lst l) => some (true, l)
  | _ => none
theorem items_ref : itemsOf S (.ref n) = itemsR S[n]? := by
  unfold itemsOf itemsR
  cases hS : S[n]? with
  | none => first | rfl | (simp only [hS]; done) | simp [hS]
  | some o => cases o <;> first | rfl | (simp only [hS]; done) | (simp only [hS]; rfl) | simp [hS]
def lenR (o : Option O) : Option D := match o with
  | some (.lst l) => some (.int l.length)
  | _ => none
theorem ev_len_ref : gLen S [.ref n] = lenR S[n]? := by
  unfold gLen lenR
  show (itemsOf S (.ref n)).map _ = _
  rw [items_ref]
  unfold itemsR
  cases hS : S[n]? with
  | none => first | rfl | (simp only [hS]; done) | simp [hS]
  | some o => cases o <;> first | rfl | (simp only [hS]; done) | (simp only [hS]; rfl) | simp [hS]
theorem ev_lenR {l : List D} : lenR (some (.lst l)) = some (.int l.length) := rfl
def lenUR (o : Option O) : Option D := match o with
  | some (.lst l) => some (.int l.length)
  | some (.dic l) => some (.int l.length)
  | _ => none
theorem ev_lenU_ref : gLenU S [.ref n] = lenUR S[n]? := by
  have h := ev_len_ref (S := S) (n := n)
  unfold gLenU lenUR dicOf ownD
  cases hS : S[n]? with
  | none => simp [hS, h, lenR]
  | some o => cases o <;> simp [hS, h, lenR]
theorem ev_lenUR {l : List D} : lenUR (some (.lst l)) = some (.int l.length) := rfl
theorem ev_lenURd {l : List (Key × D)} : lenUR (some (.dic l)) = some (.int l.length) := rfl
def tupR (o : Option O) : Option D := match o with
  | some (.lst l) => some (.tup l)
  | _ => none
theorem ev_tup_ref : gTuple S [.ref n] = tupR S[n]? := by
  unfold gTuple tupR
  show (match itemsOf S (.ref n) with
    | some (_, l) => some (D.tup l)
    | none => none) = _
  rw [items_ref]
  unfold itemsR
  cases hS : S[n]? with
  | none => first | rfl | (simp only [hS]; done) | simp [hS]
  | some o => cases o <;> first | rfl | (simp only [hS]; done) | (simp only [hS]; rfl) | simp [hS]
theorem ev_tupR {l : List D} : tupR (some (.lst l)) = some (.tup l) := rfl
def listR (o : Option O) : Option (List D) := match o with
  | some (.lst l) => some l
  | _ => none
theorem ev_list_ref : gList S [.ref n] = listR S[n]? := by
  unfold gList listR
  show (itemsOf S (.ref n)).map _ = _
  rw [items_ref]
  unfold itemsR
  cases hS : S[n]? with
  | none => first | rfl | (simp only [hS]; done) | simp [hS]
  | some o => cases o <;> first | rfl | (simp only [hS]; done) | (simp only [hS]; rfl) | simp [hS]
theorem ev_listR {l : List D} : listR (some (.lst l)) = some l := rfl
def truR (o : Option O) : Option Bool := match o with
  | some (.lst l) => some (!l.isEmpty)
  | _ => none
theorem ev_tru_ref : truD S (.ref n) = truR S[n]? := by
  unfold truD truR
  show (itemsOf S (.ref n)).map _ = _
  rw [items_ref]
  unfold itemsR
  cases hS : S[n]? with
  | none => first | rfl | (simp only [hS]; done) | simp [hS]
  | some o => cases o <;> first | rfl | (simp only [hS]; done) | (simp only [hS]; rfl) | simp [hS]
theorem ev_truR {l : List D} : truR (some (.lst l)) = some (!l.isEmpty) := rfl
def inR (o : Option O) (x : D) : Option Bool := match o with
  | some (.lst l) => if okD 58 x && okDs 58 l then some (anyEq x l) else none
  | some (.dic l) => (keyOf x).map fun k => l.any fun p => decide (p.1 = k)
  | some (.dlk l) => (keyOf x).map fun k => l.any fun p => decide (p.1 = k)
  | none => none
theorem ev_in_ref {x : D} : gIn S x (.ref n) = (inR S[n]? x).map .bl := by
  unfold gIn inD dicOf view inR
  cases hS : S[n]? with
  | none => first | rfl | (simp only [hS]; done) | simp [hS]
  | some o => cases o <;> first | rfl | (simp only [hS]; done) | (simp only [hS]; rfl) | simp [hS]
theorem ev_nin_ref {x : D} : gNin S x (.ref n) = (inR S[n]? x).map fun b => .bl (!b) := by
  unfold gNin inD dicOf view inR
  cases hS : S[n]? with
  | none => first | rfl | (simp only [hS]; done) | simp [hS]
  | some o => cases o <;> first | rfl | (simp only [hS]; done) | (simp only [hS]; rfl) | simp [hS]
def has (l : List (Key × D)) (k : Key) : Bool := l.any fun p => decide (p.1 = k)
theorem ev_inR_d {l : List (Key × D)} {i : Int} : inR (some (.dic l)) (.int i) = some (has l (.inl i)) := rfl
theorem ev_inR_k {l : List (Key × D)} {i : Int} : inR (some (.dlk l)) (.int i) = some (has l (.inl i)) := rfl
def setR (o : Option O) (S : Store) (n : Nat) (i v : D) : Option Store := match o with
  | some (.lst l) => (match i with
    | .int k => (ixN l.length k).map fun j => S.set n (.lst (l.set j v))
    | _ => none)
  | some (.dic l) => (keyOf i).bind fun k => if l.length < sizeLine then some (S.set n (.dic (putD l k v))) else none
  | _ => none
theorem ev_set_ref {i v : D} : gSet S (.ref n) i v = setR S[n]? S n i v := by
  unfold gSet ownL ownD setR
  cases hS : S[n]? with
  | none => first | rfl | (simp only [hS]; done) | simp [hS]
  | some o => cases o <;> first | rfl | (simp only [hS]; done) | (simp only [hS]; rfl) | simp [hS]
def putR (l : List (Key × D)) (S : Store) (n : Nat) (k : Key) (v : D) : Option Store := if l.length < sizeLine then some (S.set n (.dic (putD l k v))) else none
theorem ev_setR_l {l : List D} {i : Int} {v : D} : setR (some (.lst l)) S n (.int i) v = (ixN l.length i).map fun j => S.set n (.lst (l.set j v)) := rfl
theorem ev_setR_d {l : List (Key × D)} {i : Int} {v : D} : setR (some (.dic l)) S n (.int i) v = putR l S n (.inl i) v := rfl
theorem putR_of {l : List (Key × D)} {k : Key} {v : D} (h : l.length < sizeLine) : putR l S n k v = some (S.set n (.dic (putD l k v))) := if_pos h
theorem putD_new {l : List (Key × D)} {k : Key} {v : D} (h : has l k = false) : putD l k v = l ++ [(k, v)] := by
  unfold putD
  unfold has at h
  rw [h]; rfl
def tyR (o : Option O) : Option String := match o with
  | some (.lst _) => some "list"
  | some (.dic _) => some "dict"
  | _ => none
theorem ev_ty_ref : tyName S (.ref n) = tyR S[n]? := by
  unfold tyName tyR
  cases hS : S[n]? with
  | none => first | rfl | (simp only [hS]; done) | simp [hS]
  | some o => cases o <;> first | rfl | (simp only [hS]; done) | (simp only [hS]; rfl) | simp [hS]
theorem ev_tyR_l {l : List D} : tyR (some (.lst l)) = some "list" := rfl
theorem ev_tyR_d {l : List (Key × D)} : tyR (some (.dic l)) = some "dict" := rfl
theorem ev_mt {T : String} {g : Store → D → List D → Out (D × Store)} {ma : M D} {mt : M (List D)} : mMt T g ma mt e S = bnd (ma e S) fun x S1 => pick (tyOk T S1 x) (bnd (mt e S1) fun xs S2 => g S2 x xs) .none := rfl
def tyB (o : Option O) (T : String) : Bool := decide (tyR o = some T) && (T == "list" || T == "dict" || T == "str")
theorem ev_tyOk_ref {T : String} : tyOk T S (.ref n) = tyB S[n]? T := by
  unfold tyOk tyB
  rw [ev_ty_ref]
theorem ev_tyB_l {l : List D} : tyB (some (.lst l)) "list" = true := rfl
def appR (o : Option O) (S : Store) (n : Nat) (y : D) : Out (D × Store) := match o with
  | some (.lst l) => if l.length < sizeLine then .some (.non, S.set n (.lst (l ++ [y]))) else .none
  | _ => .none
theorem ev_append_ref {y : D} : gAppend S (.ref n) [y] = appR S[n]? S n y := by
  unfold gAppend ownL appR
  cases hS : S[n]? with
  | none => first | rfl | (simp only [hS]; done) | simp [hS]
  | some o => cases o <;> first | rfl | (simp only [hS]; done) | (simp only [hS]; rfl) | simp [hS]
theorem appR_of {l : List D} {y : D} (h : l.length < sizeLine) : appR (some (.lst l)) S n y = .some (.non, S.set n (.lst (l ++ [y]))) := if_pos h
def seqR (o : Option O) (n : Nat) (S : Store) : Out (Src × Store) := match o with
  | some (.lst _) => .some (.dyn (seqNow (.ref n)), S)
  | _ => .none
theorem ev_seqI_ref : seqI (.ref n) S = seqR S[n]? n S := by
  unfold seqI seqR
  show (match itemsOf S (.ref n) with
    | some _ => Out.some (seqSrc (.ref n), S)
    | none => .none) = _
  rw [items_ref]
  unfold itemsR
  cases hS : S[n]? with
  | none => first | rfl | (simp only [hS]; done) | simp [hS]
  | some o => cases o <;> first | rfl | (simp only [hS]; done) | (simp only [hS]; rfl) | simp [hS]
theorem ev_seqR {l : List D} : seqR (some (.lst l)) n S = .some (.dyn (seqNow (.ref n)), S) := rfl
def viewR (o : Option O) (n : Nat) : D := match o with
  | some (.lst l) => .lst l
  | _ => .ref n
theorem ev_view_ref : view S (.ref n) = viewR S[n]? n := by
  unfold view viewR
  cases hS : S[n]? with
  | none => first | rfl | (simp only [hS]; done) | simp [hS]
  | some o => cases o <;> first | rfl | (simp only [hS]; done) | (simp only [hS]; rfl) | simp [hS]
theorem ev_viewR {l : List D} : viewR (some (.lst l)) n = .lst l := rfl
def isDicR (o : Option O) : Bool := match o with
  | some (.dic _) => true
  | some (.dlk _) => true
  | _ => false
def isDic (S : Store) (x : D) : Bool := (dicOf S x).isSome
theorem ev_isDic_ref : isDic S (.ref n) = isDicR S[n]? := by
  unfold isDic dicOf isDicR
  cases hS : S[n]? with
  | none => first | rfl | (simp only [hS]; done) | simp [hS]
  | some o => cases o <;> first | rfl | (simp only [hS]; done) | (simp only [hS]; rfl) | simp [hS]
theorem ev_isDicR_d {l : List (Key × D)} : isDicR (some (.dic l)) = true := rfl
theorem ev_get1 {ma mk : M D} : mGet1 ma mk e S = bnd (ma e S) fun x S1 => pick (isDic S1 x) (bnd (mk e S1) fun y S2 => fin (gGet S2 x y .non) S2) .none := rfl
def getR (o : Option O) (y z : D) : Option D := match o with
  | some (.dic l) => (keyOf y).bind fun k => some ((look l k).getD z)
  | some (.dlk l) => (keyOf y).bind fun k => some ((look l k).getD z)
  | _ => none
theorem ev_get_ref {y z : D} : gGet S (.ref n) y z = getR S[n]? y z := by
  unfold gGet dicOf getR look
  generalize keyOf y = q
  cases hS : S[n]? with
  | none => first | rfl | simp [hS]
  | some o => cases o <;> cases q <;> first | rfl | simp [hS]
theorem ev_getR_d {l : List (Key × D)} {i : Int} {z : D} : getR (some (.dic l)) (.int i) z = some ((look l (.inl i)).getD z) := rfl
theorem ev_pnil : mPNil e S = .some ([], S) := rfl
theorem ev_pcons {mk mv : M D} {mr : M (List (D × D))} : mPCons mk mv mr e S = bnd (mk e S) fun k S1 => bnd (mv e S1) fun v S2 => bnd (mr e S2) fun l S3 => .some ((k, v) :: l, S3) := rfl
def dispP (ps : List (D × D)) (S : Store) : Out (D × Store) := match keysOf ps with
  | some l => if l.length ≤ 15 then .some (.ref S.length, S ++ [.dic (mergeD [] l)]) else .none
  | none => .none
theorem ev_disp {m : M (List (D × D))} : mDisp m e S = bnd (m e S) dispP := rfl
theorem ev_disp1 {k : Int} {v : D} : dispP [(.int k, v)] S = .some (.ref S.length, S ++ [.dic [(.inl k, v)]]) := rfl
theorem ev_len0 {α : Type} : ([] : List α).length = 0 := rfl
theorem ev_lenS {α : Type} {a : α} {l : List α} : (a :: l).length = l.length + 1 := rfl
theorem ev_app0 {α : Type} {l : List α} : [] ++ l = l := rfl
theorem ev_appS {α : Type} {a : α} {l r : List α} : (a :: l) ++ r = a :: (l ++ r) := rfl
theorem ev_mapN {α β : Type} {f : α → β} : (none : Option α).map f = none := rfl
end
theorem ev_ixN {n : Nat} {i : Int} : ixN n i = if 0 ≤ i then (if i < n then some i.toNat else none) else if -(n : Int) ≤ i then some (i + n).toNat else none := rfl
theorem ev_cast {n : Nat} : ((no_index (OfNat.ofNat n) : Nat) : Int) = OfNat.ofNat n := rfl
/-! ### calls that look only; ranges; products of tuples -/
theorem fn_sat {N : Nat} {F : Fn} {b : MS} {ds : List D} {S : Store} {Q : D → Store → Prop} (hF : F = mkF N b) (h : Sat (b (startE N ds) S) fun r => ∃ d S2, r = .rt d S2 ∧ Q d S2) : ∃ d S2, F ds S = .some (d, S2) ∧ Q d S2 := by
  obtain ⟨r, h1, d, S2, rfl, h3⟩ := h
  subst hF
  exact ⟨d, S2, mkF_rt h1, h3⟩
theorem mapM_nr {S : Store} {m : Nat} : ∀ {l : List D}, noRefs l = true → l.mapM (conv S m) = some l
  | [], _ => rfl
  | d :: l, h => by
    rw [nrs_cons, Bool.and_eq_true] at h
    rw [List.mapM_cons, conv_nr h.1, mapM_nr h.2]
    rfl
theorem conv_ref {S : Store} {n m : Nat} {l : List D} (h : S[n]? = some (.lst l)) (hn : noRefs l = true) : conv S (m + 1) (.ref n) = some (.lst l) := by
  unfold conv
  rw [if_neg (by rw [noRef]; exact Bool.false_ne_true)]
  simp only [h, mapM_nr hn]
  rfl
theorem callR1 {F : Fn} {n : Nat} {l : List D} {d : D} {S S2 : Store} (h : S[n]? = some (.lst l)) (hn : noRefs l = true) (hF : F [.lst l] [] = .some (d, S2)) (hd : noLst d = true) : callR 1 F [.ref n] S = .some (d, S) := by
  refine callR_of (ds' := [.lst l]) ?_ rfl hF hd
  rw [List.mapM_cons, conv_ref h hn]
  rfl
theorem nl_int {i : Int} : noLst (.int i) = true := rfl
theorem nl_bl {i : Bool} : noLst (.bl i) = true := rfl
theorem nl_non : noLst .non = true := rfl
theorem nl_str {i : Str} : noLst (.str i) = true := rfl
theorem nl_tup {l : List D} : noLst (.tup l) = noLsts l := by rw [noLst]
theorem nls_nil : noLsts [] = true := by rw [noLsts, noLst.noLsts]
theorem nls_cons {d : D} {l : List D} : noLsts (d :: l) = (noLst d && noLsts l) := by rw [noLsts, noLst.noLsts]
theorem nls_map {α : Type} {f : α → D} : ∀ {l : List α}, (∀ x ∈ l, noLst (f x) = true) → noLsts (l.map f) = true
  | [], _ => nls_nil
  | a :: l, h => by
    rw [List.map_cons, nls_cons, h a (List.mem_cons_self ..), nls_map fun x hx => h x (List.mem_cons_of_mem _ hx)]
    rfl
theorem mul_tup1 {S : Store} {x : D} {k : Nat} (h : k ≤ 1000) : gMul S (.tup [x]) (.int (k : Int)) = some (.tup (List.replicate k x)) := by
  unfold gMul
  dsimp only
  rw [if_pos (by simp; omega), Int.toNat_natCast]
  unfold repD
  have : (List.replicate k [x]).flatten = List.replicate k x := by
    induction k with
    | zero => rfl
    | succ k ih => rw [List.replicate_succ, List.replicate_succ, List.flatten_cons, ih (by omega)]; rfl
  rw [this]
theorem sat_split {r : Option SR} {K : MS} {Q : SR → Prop} (P : Env → Store → Prop) (h1 : Sat r fun x => ∃ e S, x = .nx e S ∧ P e S) (h2 : ∀ e S, P e S → Sat (K e S) Q) : Sat (seqS r K) Q := by
  obtain ⟨x, hx, e, S, rfl, hp⟩ := h1
  rw [hx]
  exact h2 e S hp
/-! ### slices -/
theorem ev_cut {m : M D} {lo hi : M (Option Int)} {e : Env} {S : Store} : mCut m lo hi e S = bnd (m e S) fun x S1 => bnd (lo e S1) fun i S2 => bnd (hi e S2) fun j S3 => fin (gCut S3 x i j) S3 := rfl
theorem ev_part0 {e : Env} {S : Store} : mPart none e S = .some (none, S) := rfl
def partI (x : D) (S : Store) : Out (Option Int × Store) := match x with
  | .int i => .some (some i, S)
  | _ => .none
theorem ev_part1 {m : M D} {e : Env} {S : Store} : mPart (some m) e S = bnd (m e S) partI := rfl
theorem ev_partI {i : Int} {S : Store} : partI (.int i) S = .some (some i, S) := rfl
theorem ev_cutT {S : Store} {l : List D} {lo hi : Option Int} : gCut S (.tup l) lo hi = some (.tup (cutD l lo hi)) := rfl
theorem ev_cutL {S : Store} {l : List D} {lo hi : Option Int} : gCut S (.lst l) lo hi = some (.lst (cutD l lo hi)) := rfl
theorem ev_cutSc {S : Store} {l : List D} {lo hi : Option Int} : gCut S (.scr l) lo hi = some (.lst (cutD l lo hi)) := rfl
theorem cutD_to {l : List D} {k : Nat} : cutD l none (some (k : Int)) = l.take k := by
  unfold cutD
  rw [HT.sIx_none, HT.sIx_nat, List.drop_zero, Nat.sub_zero]
  by_cases h : k ≤ l.length
  · rw [Nat.min_eq_left h]
  · rw [Nat.min_eq_right (by omega), List.take_length, List.take_of_length_le (by omega)]
theorem cutD_from {l : List D} {k : Nat} : cutD l (some (k : Int)) none = l.drop k := by
  unfold cutD
  rw [HT.sIx_none, HT.sIx_nat]
  by_cases h : k ≤ l.length
  · rw [Nat.min_eq_left h, List.take_of_length_le (by simp)]
  · rw [Nat.min_eq_right (by omega), List.drop_length, List.drop_of_length_le (by omega)]; simp
theorem cutD_mid {l : List D} {k j : Nat} : cutD l (some (k : Int)) (some (j : Int)) = (l.take j).drop k := by
  unfold cutD
  simp only [HT.sIx_nat, List.drop_take]
  apply List.ext_getElem?
  intro i
  simp only [List.getElem?_take, List.getElem?_drop]
  by_cases h1 : k ≤ l.length <;> by_cases h2 : j ≤ l.length
  · rw [Nat.min_eq_left h1, Nat.min_eq_left h2]
  · rw [Nat.min_eq_left h1, Nat.min_eq_right (Nat.le_of_not_le h2)]
    by_cases h3 : i < l.length - k
    · rw [if_pos h3, if_pos (by omega)]
    · rw [if_neg h3, List.getElem?_eq_none (by omega)]; simp
  · rw [Nat.min_eq_right (Nat.le_of_not_le h1), Nat.min_eq_left h2, if_neg (by omega), List.getElem?_eq_none (by omega)]; simp
  · rw [Nat.min_eq_right (Nat.le_of_not_le h1), Nat.min_eq_right (Nat.le_of_not_le h2), if_neg (by omega), List.getElem?_eq_none (by omega)]; simp
theorem callP_defc {n N : Nat} {F : Fn} {b : MS} {ds : List D} {d d' : D} {S S2 : Store} (hF : F = mkF N b) (hl : ds.length = n) (hn : noRefs ds = true) (h : b (startE N ds) [] = some (.rt d S2)) (hd : conv S2 40 d = some d') : callP n F ds S = .some (d', S) := by
  subst hF
  exact callP_conv hl hn (mkF_rt h) hd
/-! ### for k in d, nothing in the store being changed -/
theorem forK_run {n : Nat} {l : List (Key × D)} {tg : Tg} {b : MS} {T : Store} (hT : T[n]? = some (.dlk l)) (I : List (Key × D) → Env → Prop)
    (step : ∀ p ps e, p ∈ l → I (p :: ps) e → ∃ e1, tg (keyD p.1) e = some e1 ∧ Sat (b e1 T) fun r => ∃ e2, (r = .nx e2 T ∨ r = .ct e2 T) ∧ I ps e2) :
    ∀ (ps : List (Key × D)) (i N : Nat) (e : Env), l.drop i = ps → i + ps.length = l.length → ps.length < N → I ps e → ∃ e2, forD (keyNow n) tg b N i e T = some (.nx e2 T) ∧ I [] e2
  | [], i, 0, e, _, _, hN, hi => absurd hN (Nat.not_lt_zero _)
  | [], i, N + 1, e, _, hle, hN, hi => by
    refine ⟨e, ?_, hi⟩
    have hle : i = l.length := by simpa using hle
    have hk : keyNow n i T = some none := by
      unfold keyNow
      simp only [hT]
      rw [if_neg (by omega), List.getElem?_eq_none (by omega)]
      rfl
    show (match keyNow n i T with
      | none => none
      | some none => some (SR.nx e T)
      | some (some d) => match tg d e with
        | none => none
        | some e1 => forEnd (b e1 T) fun e2 S2 => forD (keyNow n) tg b N (i + 1) e2 S2) = _
    rw [hk]
  | p :: ps, i, 0, e, _, _, hN, hi => absurd hN (Nat.not_lt_zero _)
  | p :: ps, i, N + 1, e, hd, hle, hN, hi => by
    rw [List.length_cons] at hle hN
    have hp : l[i]? = some p := by
      have := List.getElem?_drop (xs := l) (i := i) (j := 0)
      rw [hd] at this
      simpa using this.symm
    have hk : keyNow n i T = some (some (keyD p.1)) := by
      unfold keyNow
      simp only [hT]
      rw [if_neg (by omega), hp]
      rfl
    obtain ⟨e1, h1, r, h2, e2, h3, h4⟩ := step p ps e (List.mem_of_getElem? hp) hi
    obtain ⟨e3, h5, h6⟩ := forK_run hT I step ps (i + 1) N e2 (by rw [← List.drop_drop, hd]; rfl) (by omega) (by omega) h4
    refine ⟨e3, ?_, h6⟩
    show (match keyNow n i T with
      | none => none
      | some none => some (SR.nx e T)
      | some (some d) => match tg d e with
        | none => none
        | some e1 => forEnd (b e1 T) fun e2 S2 => forD (keyNow n) tg b N (i + 1) e2 S2) = _
    rw [hk]
    show (match tg (keyD p.1) e with
        | none => none
        | some e1 => forEnd (b e1 T) fun e2 S2 => forD (keyNow n) tg b N (i + 1) e2 S2) = _
    rw [h1]
    show forEnd (b e1 T) _ = _
    rw [h2]
    rcases h3 with rfl | rfl <;> exact h5
theorem sat_forK {i : Nat} {tg : Tg} {b k : MS} {N : Nat} {e : Env} {S : Store} {n : Nat} {l : List (Key × D)} {Q : SR → Prop} (he : e[i]? = some (some (.ref n))) (hS : S[n]? = some (.dic l)) (hN : l.length < N) (I : List (Key × D) → Env → Prop)
    (step : ∀ p ps e, p ∈ l → I (p :: ps) e → ∃ e1, tg (keyD p.1) e = some e1 ∧ Sat (b e1 (S.set n (.dlk l))) fun r => ∃ e2, (r = .nx e2 (S.set n (.dlk l)) ∨ r = .ct e2 (S.set n (.dlk l))) ∧ I ps e2)
    (start : I l e) (end_ : ∀ e, I [] e → Sat (k e S) Q) : Sat (seqS (msForK N i tg b e S) k) Q := by
  have hn := (List.getElem?_eq_some_iff.mp hS).1
  have hT : (S.set n (.dlk l))[n]? = some (.dlk l) := by rw [List.getElem?_set_self hn]
  obtain ⟨e2, h1, h2⟩ := forK_run hT I step l 0 N e rfl (by omega) hN start
  have h3 : (S.set n (.dlk l)).set n (.dic l) = S := by
    rw [List.set_set]
    apply List.ext_getElem?
    intro j
    by_cases h : n = j
    · subst h; rw [List.getElem?_set_self hn, hS]
    · rw [List.getElem?_set_ne h]
  have : msForK N i tg b e S = some (.nx e2 S) := by
    unfold msForK
    rw [he]
    simp only [hS, h1]
    show (unlk n (S.set n (.dlk l))).map (SR.nx e2) = _
    unfold unlk
    simp only [hT, h3]
    rfl
  rw [this]
  exact end_ e2 h2
theorem ev_eqB {S : Store} {a b : Bool} : gEq S (.bl a) (.bl b) = some (.bl (a == b)) := rfl
theorem ev_neB {S : Store} {a b : Bool} : gNe S (.bl a) (.bl b) = some (.bl (!(a == b))) := rfl
theorem ev_btt : (true == true) = true := rfl
theorem ev_btf : (true == false) = false := rfl
theorem ev_bft : (false == true) = false := rfl
theorem ev_bff : (false == false) = true := rfl
theorem ev_neL0 {S : Store} : gNe S (.lst []) (.lst []) = some (.bl false) := rfl
theorem zipD_self : ∀ l : List D, zipD l l = l.map fun x => .tup [x, x]
  | [] => rfl
  | x :: l => by
    show _ :: zipD l l = _
    rw [zipD_self l]; rfl
theorem eqDs_ints : ∀ a b : List Int, eqDs (a.map .int) (b.map .int) = decide (a = b)
  | [], [] => rfl
  | [], y :: b => by simp [eqDs]
  | x :: a, [] => by simp [eqDs]
  | x :: a, y :: b => by
    rw [List.map_cons, List.map_cons, eqDs, eqDs_ints a b]
    show (decide (x = y) && _) = _
    by_cases h : x = y
    · subst h; simp
    · simp [h]
theorem okDs_ints {n : Nat} : ∀ a : List Int, okDs n (a.map .int) = true
  | [] => rfl
  | x :: a => by
    rw [List.map_cons, okDs, okDs_ints a]
    cases n <;> rfl
theorem ne_ints {S : Store} {a b : List Int} : gNe S (.lst (a.map .int)) (.lst (b.map .int)) = some (.bl (!decide (a = b))) := by
  unfold gNe
  have h : ∀ l : List Int, okD 60 (view S (.lst (l.map .int))) = true := fun l => by
    show okDs 59 (l.map .int) = true
    exact okDs_ints l
  rw [h, h]
  show (if true = true then some (D.bl (!eqDs (a.map .int) (b.map .int))) else none) = _
  rw [eqDs_ints]; rfl
end MD
local macro_rules | `(tactic| simp_arith) => `(tactic| simp -implicitDefEqProofs only [MD.ev_bnd, MD.ev_bnd_err, MD.ev_bnd_none, MD.ev_bndS, MD.ev_bndS_err, MD.ev_fin, MD.ev_seq, MD.ev_seqS_nx, MD.ev_seqS_rt, MD.ev_seqS_bk, MD.ev_seqS_ct, MD.ev_seqS_ex, MD.ev_pick_t, MD.ev_pick_f, MD.ev_pickE_t, MD.ev_pickE_f, MD.ev_pickE_some, MD.ev_pickE_and, MD.ev_pickE_or, MD.ev_dt, MD.ev_df, MD.ev_nt, MD.ev_nf, MD.ev_at, MD.ev_af, MD.ev_ot, MD.ev_of, MD.ev_var0, MD.ev_varS, MD.ev_c, MD.ev_op2, MD.ev_op1, MD.ev_opN, MD.ev_nil, MD.ev_cons, MD.ev_lst, MD.ev_fitL0, MD.ev_fitL1, MD.ev_fitL2, MD.ev_fitL3, MD.ev_fitL4, MD.ev_frz, MD.ev_new, MD.ev_gTup0, MD.ev_gTup1, MD.ev_gTup2, MD.ev_gTup3, MD.ev_gTup4, MD.ev_gTup5, MD.ev_gTup6, MD.ev_test, MD.ev_tst, MD.ev_tru, MD.ev_tru_non, MD.ev_tru_bl, MD.ev_tru_int, MD.ev_tru_tup, MD.ev_tru_lst, MD.ev_tru_scr, MD.ev_and, MD.ev_or, MD.ev_not, MD.ev_ite, MD.ev_orV, MD.ev_andV, MD.ev_orP_t, MD.ev_orP_f, MD.ev_andP_t, MD.ev_andP_f, MD.ev_orP_b, MD.ev_andP_b, MD.ev_notV, MD.ev_omap, MD.ev_obind, MD.ev_add, MD.ev_addI, MD.ev_subI, MD.ev_lt, MD.ev_le, MD.ev_gt, MD.ev_ge, MD.ev_neg, MD.ev_eqI, MD.ev_neI, MD.ev_isN, MD.ev_isntN, MD.ev_nonN, MD.ev_nonT, MD.ev_nonL, MD.ev_nonI, MD.ev_nonB, MD.ev_nonS, MD.ev_nonR, MD.ev_subT, MD.ev_subL, MD.ev_subSc, MD.ev_at0, MD.ev_at1, MD.ev_at2, MD.ev_at3, MD.ev_lenT, MD.ev_lenL, MD.ev_lenSc, MD.ev_lenUT, MD.ev_lenUL, MD.ev_lenUSc, MD.ev_abs, MD.ev_max2, MD.ev_min2, MD.ev_intI, MD.ev_intB, MD.ev_tupT, MD.ev_tupL, MD.ev_tupSc, MD.ev_caL, MD.ev_listT, MD.ev_listL, MD.ev_listSc, MD.ev_blsOf, MD.ev_all, MD.ev_any, MD.ev_sum, MD.ev_tyI, MD.ev_tyB, MD.ev_tyN, MD.ev_tyS, MD.ev_tyT, MD.ev_tyL, MD.ev_tySc, MD.ev_isi, MD.ev_isiT, MD.ev_isi_ii, MD.ev_isi_ib, MD.ev_isi_bi, MD.ev_isi_bb, MD.ev_isi_tt, MD.ev_isi_ti, MD.ev_isi_tb, MD.ev_isi_tl, MD.ev_isi_ts, MD.ev_isi_li, MD.ev_isi_lb, MD.ev_isi_ll, MD.ev_isi_lt, MD.ev_isi_ls, MD.ev_isi_it, MD.ev_isi_il, MD.ev_isi_is, MD.ev_isi_bt, MD.ev_isi_bl, MD.ev_isi_bs, MD.ev_isi_ni, MD.ev_isi_nb, MD.ev_isi_nt, MD.ev_isi_nl, MD.ev_isi_ns, MD.ev_isi_ss, MD.ev_isi_si, MD.ev_isi_sb, MD.ev_isi_st, MD.ev_isi_sl, MD.ev_isis_t, MD.ev_isis_l, MD.ev_isis_i, MD.ev_isis_b, MD.ev_isis_n, MD.ev_isis_s, MD.ev_isbs_i, MD.ev_isbs_b, MD.ev_isbs_s, MD.ev_chain, MD.ev_chainP, MD.ev_chainP_t, MD.ev_chainP_f, MD.ev_snil, MD.ev_brk, MD.ev_cont, MD.ev_expr, MD.ev_ret, MD.ev_if, MD.ev_asg, MD.ev_asgP, MD.ev_tgName, MD.ev_set0, MD.ev_setS, MD.ev_tgTup, MD.ev_tupP1, MD.ev_tupP2, MD.ev_tupP3, MD.ev_tupP4, MD.ev_tgNil, MD.ev_tgCons, MD.ev_consP, MD.ev_par, MD.ev_par3, MD.ev_augP, MD.ev_aug, MD.ev_augQ, MD.ev_get0, MD.ev_getS, MD.ev_setP, MD.ev_mset, MD.ev_raise, MD.ev_for, MD.ev_forP, MD.ev_forPd, MD.ev_while, MD.ev_forEnd_nx, MD.ev_forEnd_ct, MD.ev_forEnd_bk, MD.ev_forEnd_rt, MD.ev_seqI, MD.ev_seqI_t, MD.ev_seqI_l, MD.ev_seqI_sc, MD.ev_seqI_s, MD.ev_twoI, MD.ev_twoI_tt, MD.ev_twoI_tl, MD.ev_twoI_lt, MD.ev_twoI_ll, MD.ev_numI, MD.ev_numI_t, MD.ev_numI_l, MD.ev_numI_sc, MD.ev_rng1, MD.ev_lc, MD.ev_runC, MD.ev_runCd, MD.ev_wipe0, MD.ev_wipeS, MD.ev_yes, MD.ev_callT, MD.ev_callP, MD.ev_app, MD.ev_mlen, MD.ev_lenP0, MD.ev_lenP1, MD.ev_lenP2, MD.nr_int, MD.nr_non, MD.nr_bl, MD.nr_str, MD.nr_tup, MD.nr_lst, MD.nr_scr, MD.nrs_nil, MD.nrs_cons, MD.nrs_ints, MD.ev_forL_nil, MD.ev_sub_ref, MD.ev_subR_l, MD.ev_subR_d, MD.ev_subR_k, MD.ev_subR_ds, MD.ev_len_ref, MD.ev_lenR, MD.ev_lenU_ref, MD.ev_lenUR, MD.ev_lenURd, MD.ev_tup_ref, MD.ev_tupR, MD.ev_list_ref, MD.ev_listR, MD.ev_tru_ref, MD.ev_truR, MD.ev_in_ref, MD.ev_nin_ref, MD.ev_inR_d, MD.ev_inR_k, MD.ev_set_ref, MD.ev_setR_l, MD.ev_setR_d, MD.ev_ty_ref, MD.ev_tyR_l, MD.ev_tyR_d, MD.ev_mt, MD.ev_tyOk_ref, MD.ev_tyB_l, MD.ev_append_ref, MD.ev_seqI_ref, MD.ev_seqR, MD.ev_view_ref, MD.ev_viewR, MD.ev_isDic_ref, MD.ev_isDicR_d, MD.ev_get1, MD.ev_get_ref, MD.ev_getR_d, MD.ev_pnil, MD.ev_pcons, MD.ev_disp, MD.ev_disp1, MD.ev_len0, MD.ev_lenS, MD.ev_app0, MD.ev_appS, MD.ev_mapN, MD.ev_pickE_int, MD.ev_pickE_bl, MD.ev_ixN, MD.ev_cast, Nat.reduceAdd, Nat.reduceSub, Nat.reduceMul, Nat.reduceLT, Nat.reduceLeDiff, Nat.reduceEqDiff, Int.reduceAdd, Int.reduceSub, Int.reduceMul, Int.reduceNeg, Int.reduceLT, Int.reduceLE, Int.reduceEq, Int.reduceToNat, MD.nl_int, MD.nl_bl, MD.nl_non, MD.nl_str, MD.nl_tup, MD.nls_nil, MD.nls_cons, List.length_map, List.length_replicate, List.length_range, MD.ev_cut, MD.ev_part0, MD.ev_part1, MD.ev_partI, MD.ev_cutT, MD.ev_cutL, MD.ev_cutSc, MD.ev_eqB, MD.ev_neB, MD.ev_btt, MD.ev_btf, MD.ev_bft, MD.ev_bff, MD.ev_neL0, MD.ev_callR, MD.ev_start0, MD.ev_startS, MD.ev_repl0, MD.ev_replS, ↓reduceIte])
local macro_rules | `(tactic| simp_arith [$as,*]) => `(tactic| simp -implicitDefEqProofs only [MD.ev_bnd, MD.ev_bnd_err, MD.ev_bnd_none, MD.ev_bndS, MD.ev_bndS_err, MD.ev_fin, MD.ev_seq, MD.ev_seqS_nx, MD.ev_seqS_rt, MD.ev_seqS_bk, MD.ev_seqS_ct, MD.ev_seqS_ex, MD.ev_pick_t, MD.ev_pick_f, MD.ev_pickE_t, MD.ev_pickE_f, MD.ev_pickE_some, MD.ev_pickE_and, MD.ev_pickE_or, MD.ev_dt, MD.ev_df, MD.ev_nt, MD.ev_nf, MD.ev_at, MD.ev_af, MD.ev_ot, MD.ev_of, MD.ev_var0, MD.ev_varS, MD.ev_c, MD.ev_op2, MD.ev_op1, MD.ev_opN, MD.ev_nil, MD.ev_cons, MD.ev_lst, MD.ev_fitL0, MD.ev_fitL1, MD.ev_fitL2, MD.ev_fitL3, MD.ev_fitL4, MD.ev_frz, MD.ev_new, MD.ev_gTup0, MD.ev_gTup1, MD.ev_gTup2, MD.ev_gTup3, MD.ev_gTup4, MD.ev_gTup5, MD.ev_gTup6, MD.ev_test, MD.ev_tst, MD.ev_tru, MD.ev_tru_non, MD.ev_tru_bl, MD.ev_tru_int, MD.ev_tru_tup, MD.ev_tru_lst, MD.ev_tru_scr, MD.ev_and, MD.ev_or, MD.ev_not, MD.ev_ite, MD.ev_orV, MD.ev_andV, MD.ev_orP_t, MD.ev_orP_f, MD.ev_andP_t, MD.ev_andP_f, MD.ev_orP_b, MD.ev_andP_b, MD.ev_notV, MD.ev_omap, MD.ev_obind, MD.ev_add, MD.ev_addI, MD.ev_subI, MD.ev_lt, MD.ev_le, MD.ev_gt, MD.ev_ge, MD.ev_neg, MD.ev_eqI, MD.ev_neI, MD.ev_isN, MD.ev_isntN, MD.ev_nonN, MD.ev_nonT, MD.ev_nonL, MD.ev_nonI, MD.ev_nonB, MD.ev_nonS, MD.ev_nonR, MD.ev_subT, MD.ev_subL, MD.ev_subSc, MD.ev_at0, MD.ev_at1, MD.ev_at2, MD.ev_at3, MD.ev_lenT, MD.ev_lenL, MD.ev_lenSc, MD.ev_lenUT, MD.ev_lenUL, MD.ev_lenUSc, MD.ev_abs, MD.ev_max2, MD.ev_min2, MD.ev_intI, MD.ev_intB, MD.ev_tupT, MD.ev_tupL, MD.ev_tupSc, MD.ev_caL, MD.ev_listT, MD.ev_listL, MD.ev_listSc, MD.ev_blsOf, MD.ev_all, MD.ev_any, MD.ev_sum, MD.ev_tyI, MD.ev_tyB, MD.ev_tyN, MD.ev_tyS, MD.ev_tyT, MD.ev_tyL, MD.ev_tySc, MD.ev_isi, MD.ev_isiT, MD.ev_isi_ii, MD.ev_isi_ib, MD.ev_isi_bi, MD.ev_isi_bb, MD.ev_isi_tt, MD.ev_isi_ti, MD.ev_isi_tb, MD.ev_isi_tl, MD.ev_isi_ts, MD.ev_isi_li, MD.ev_isi_lb, MD.ev_isi_ll, MD.ev_isi_lt, MD.ev_isi_ls, MD.ev_isi_it, MD.ev_isi_il, MD.ev_isi_is, MD.ev_isi_bt, MD.ev_isi_bl, MD.ev_isi_bs, MD.ev_isi_ni, MD.ev_isi_nb, MD.ev_isi_nt, MD.ev_isi_nl, MD.ev_isi_ns, MD.ev_isi_ss, MD.ev_isi_si, MD.ev_isi_sb, MD.ev_isi_st, MD.ev_isi_sl, MD.ev_isis_t, MD.ev_isis_l, MD.ev_isis_i, MD.ev_isis_b, MD.ev_isis_n, MD.ev_isis_s, MD.ev_isbs_i, MD.ev_isbs_b, MD.ev_isbs_s, MD.ev_chain, MD.ev_chainP, MD.ev_chainP_t, MD.ev_chainP_f, MD.ev_snil, MD.ev_brk, MD.ev_cont, MD.ev_expr, MD.ev_ret, MD.ev_if, MD.ev_asg, MD.ev_asgP, MD.ev_tgName, MD.ev_set0, MD.ev_setS, MD.ev_tgTup, MD.ev_tupP1, MD.ev_tupP2, MD.ev_tupP3, MD.ev_tupP4, MD.ev_tgNil, MD.ev_tgCons, MD.ev_consP, MD.ev_par, MD.ev_par3, MD.ev_augP, MD.ev_aug, MD.ev_augQ, MD.ev_get0, MD.ev_getS, MD.ev_setP, MD.ev_mset, MD.ev_raise, MD.ev_for, MD.ev_forP, MD.ev_forPd, MD.ev_while, MD.ev_forEnd_nx, MD.ev_forEnd_ct, MD.ev_forEnd_bk, MD.ev_forEnd_rt, MD.ev_seqI, MD.ev_seqI_t, MD.ev_seqI_l, MD.ev_seqI_sc, MD.ev_seqI_s, MD.ev_twoI, MD.ev_twoI_tt, MD.ev_twoI_tl, MD.ev_twoI_lt, MD.ev_twoI_ll, MD.ev_numI, MD.ev_numI_t, MD.ev_numI_l, MD.ev_numI_sc, MD.ev_rng1, MD.ev_lc, MD.ev_runC, MD.ev_runCd, MD.ev_wipe0, MD.ev_wipeS, MD.ev_yes, MD.ev_callT, MD.ev_callP, MD.ev_app, MD.ev_mlen, MD.ev_lenP0, MD.ev_lenP1, MD.ev_lenP2, MD.nr_int, MD.nr_non, MD.nr_bl, MD.nr_str, MD.nr_tup, MD.nr_lst, MD.nr_scr, MD.nrs_nil, MD.nrs_cons, MD.nrs_ints, MD.ev_forL_nil, MD.ev_sub_ref, MD.ev_subR_l, MD.ev_subR_d, MD.ev_subR_k, MD.ev_subR_ds, MD.ev_len_ref, MD.ev_lenR, MD.ev_lenU_ref, MD.ev_lenUR, MD.ev_lenURd, MD.ev_tup_ref, MD.ev_tupR, MD.ev_list_ref, MD.ev_listR, MD.ev_tru_ref, MD.ev_truR, MD.ev_in_ref, MD.ev_nin_ref, MD.ev_inR_d, MD.ev_inR_k, MD.ev_set_ref, MD.ev_setR_l, MD.ev_setR_d, MD.ev_ty_ref, MD.ev_tyR_l, MD.ev_tyR_d, MD.ev_mt, MD.ev_tyOk_ref, MD.ev_tyB_l, MD.ev_append_ref, MD.ev_seqI_ref, MD.ev_seqR, MD.ev_view_ref, MD.ev_viewR, MD.ev_isDic_ref, MD.ev_isDicR_d, MD.ev_get1, MD.ev_get_ref, MD.ev_getR_d, MD.ev_pnil, MD.ev_pcons, MD.ev_disp, MD.ev_disp1, MD.ev_len0, MD.ev_lenS, MD.ev_app0, MD.ev_appS, MD.ev_mapN, MD.ev_pickE_int, MD.ev_pickE_bl, MD.ev_ixN, MD.ev_cast, Nat.reduceAdd, Nat.reduceSub, Nat.reduceMul, Nat.reduceLT, Nat.reduceLeDiff, Nat.reduceEqDiff, Int.reduceAdd, Int.reduceSub, Int.reduceMul, Int.reduceNeg, Int.reduceLT, Int.reduceLE, Int.reduceEq, Int.reduceToNat, MD.nl_int, MD.nl_bl, MD.nl_non, MD.nl_str, MD.nl_tup, MD.nls_nil, MD.nls_cons, List.length_map, List.length_replicate, List.length_range, MD.ev_cut, MD.ev_part0, MD.ev_part1, MD.ev_partI, MD.ev_cutT, MD.ev_cutL, MD.ev_cutSc, MD.ev_eqB, MD.ev_neB, MD.ev_btt, MD.ev_btf, MD.ev_bft, MD.ev_bff, MD.ev_neL0, MD.ev_callR, MD.ev_start0, MD.ev_startS, MD.ev_repl0, MD.ev_replS, ↓reduceIte, $as,*])
local macro_rules | `(tactic| simp_arith [$as,*] at $h:ident) => `(tactic| simp -implicitDefEqProofs only [MD.ev_bnd, MD.ev_bnd_err, MD.ev_bnd_none, MD.ev_bndS, MD.ev_bndS_err, MD.ev_fin, MD.ev_seq, MD.ev_seqS_nx, MD.ev_seqS_rt, MD.ev_seqS_bk, MD.ev_seqS_ct, MD.ev_seqS_ex, MD.ev_pick_t, MD.ev_pick_f, MD.ev_pickE_t, MD.ev_pickE_f, MD.ev_pickE_some, MD.ev_pickE_and, MD.ev_pickE_or, MD.ev_dt, MD.ev_df, MD.ev_nt, MD.ev_nf, MD.ev_at, MD.ev_af, MD.ev_ot, MD.ev_of, MD.ev_var0, MD.ev_varS, MD.ev_c, MD.ev_op2, MD.ev_op1, MD.ev_opN, MD.ev_nil, MD.ev_cons, MD.ev_lst, MD.ev_fitL0, MD.ev_fitL1, MD.ev_fitL2, MD.ev_fitL3, MD.ev_fitL4, MD.ev_frz, MD.ev_new, MD.ev_gTup0, MD.ev_gTup1, MD.ev_gTup2, MD.ev_gTup3, MD.ev_gTup4, MD.ev_gTup5, MD.ev_gTup6, MD.ev_test, MD.ev_tst, MD.ev_tru, MD.ev_tru_non, MD.ev_tru_bl, MD.ev_tru_int, MD.ev_tru_tup, MD.ev_tru_lst, MD.ev_tru_scr, MD.ev_and, MD.ev_or, MD.ev_not, MD.ev_ite, MD.ev_orV, MD.ev_andV, MD.ev_orP_t, MD.ev_orP_f, MD.ev_andP_t, MD.ev_andP_f, MD.ev_orP_b, MD.ev_andP_b, MD.ev_notV, MD.ev_omap, MD.ev_obind, MD.ev_add, MD.ev_addI, MD.ev_subI, MD.ev_lt, MD.ev_le, MD.ev_gt, MD.ev_ge, MD.ev_neg, MD.ev_eqI, MD.ev_neI, MD.ev_isN, MD.ev_isntN, MD.ev_nonN, MD.ev_nonT, MD.ev_nonL, MD.ev_nonI, MD.ev_nonB, MD.ev_nonS, MD.ev_nonR, MD.ev_subT, MD.ev_subL, MD.ev_subSc, MD.ev_at0, MD.ev_at1, MD.ev_at2, MD.ev_at3, MD.ev_lenT, MD.ev_lenL, MD.ev_lenSc, MD.ev_lenUT, MD.ev_lenUL, MD.ev_lenUSc, MD.ev_abs, MD.ev_max2, MD.ev_min2, MD.ev_intI, MD.ev_intB, MD.ev_tupT, MD.ev_tupL, MD.ev_tupSc, MD.ev_caL, MD.ev_listT, MD.ev_listL, MD.ev_listSc, MD.ev_blsOf, MD.ev_all, MD.ev_any, MD.ev_sum, MD.ev_tyI, MD.ev_tyB, MD.ev_tyN, MD.ev_tyS, MD.ev_tyT, MD.ev_tyL, MD.ev_tySc, MD.ev_isi, MD.ev_isiT, MD.ev_isi_ii, MD.ev_isi_ib, MD.ev_isi_bi, MD.ev_isi_bb, MD.ev_isi_tt, MD.ev_isi_ti, MD.ev_isi_tb, MD.ev_isi_tl, MD.ev_isi_ts, MD.ev_isi_li, MD.ev_isi_lb, MD.ev_isi_ll, MD.ev_isi_lt, MD.ev_isi_ls, MD.ev_isi_it, MD.ev_isi_il, MD.ev_isi_is, MD.ev_isi_bt, MD.ev_isi_bl, MD.ev_isi_bs, MD.ev_isi_ni, MD.ev_isi_nb, MD.ev_isi_nt, MD.ev_isi_nl, MD.ev_isi_ns, MD.ev_isi_ss, MD.ev_isi_si, MD.ev_isi_sb, MD.ev_isi_st, MD.ev_isi_sl, MD.ev_isis_t, MD.ev_isis_l, MD.ev_isis_i, MD.ev_isis_b, MD.ev_isis_n, MD.ev_isis_s, MD.ev_isbs_i, MD.ev_isbs_b, MD.ev_isbs_s, MD.ev_chain, MD.ev_chainP, MD.ev_chainP_t, MD.ev_chainP_f, MD.ev_snil, MD.ev_brk, MD.ev_cont, MD.ev_expr, MD.ev_ret, MD.ev_if, MD.ev_asg, MD.ev_asgP, MD.ev_tgName, MD.ev_set0, MD.ev_setS, MD.ev_tgTup, MD.ev_tupP1, MD.ev_tupP2, MD.ev_tupP3, MD.ev_tupP4, MD.ev_tgNil, MD.ev_tgCons, MD.ev_consP, MD.ev_par, MD.ev_par3, MD.ev_augP, MD.ev_aug, MD.ev_augQ, MD.ev_get0, MD.ev_getS, MD.ev_setP, MD.ev_mset, MD.ev_raise, MD.ev_for, MD.ev_forP, MD.ev_forPd, MD.ev_while, MD.ev_forEnd_nx, MD.ev_forEnd_ct, MD.ev_forEnd_bk, MD.ev_forEnd_rt, MD.ev_seqI, MD.ev_seqI_t, MD.ev_seqI_l, MD.ev_seqI_sc, MD.ev_seqI_s, MD.ev_twoI, MD.ev_twoI_tt, MD.ev_twoI_tl, MD.ev_twoI_lt, MD.ev_twoI_ll, MD.ev_numI, MD.ev_numI_t, MD.ev_numI_l, MD.ev_numI_sc, MD.ev_rng1, MD.ev_lc, MD.ev_runC, MD.ev_runCd, MD.ev_wipe0, MD.ev_wipeS, MD.ev_yes, MD.ev_callT, MD.ev_callP, MD.ev_app, MD.ev_mlen, MD.ev_lenP0, MD.ev_lenP1, MD.ev_lenP2, MD.nr_int, MD.nr_non, MD.nr_bl, MD.nr_str, MD.nr_tup, MD.nr_lst, MD.nr_scr, MD.nrs_nil, MD.nrs_cons, MD.nrs_ints, MD.ev_forL_nil, MD.ev_sub_ref, MD.ev_subR_l, MD.ev_subR_d, MD.ev_subR_k, MD.ev_subR_ds, MD.ev_len_ref, MD.ev_lenR, MD.ev_lenU_ref, MD.ev_lenUR, MD.ev_lenURd, MD.ev_tup_ref, MD.ev_tupR, MD.ev_list_ref, MD.ev_listR, MD.ev_tru_ref, MD.ev_truR, MD.ev_in_ref, MD.ev_nin_ref, MD.ev_inR_d, MD.ev_inR_k, MD.ev_set_ref, MD.ev_setR_l, MD.ev_setR_d, MD.ev_ty_ref, MD.ev_tyR_l, MD.ev_tyR_d, MD.ev_mt, MD.ev_tyOk_ref, MD.ev_tyB_l, MD.ev_append_ref, MD.ev_seqI_ref, MD.ev_seqR, MD.ev_view_ref, MD.ev_viewR, MD.ev_isDic_ref, MD.ev_isDicR_d, MD.ev_get1, MD.ev_get_ref, MD.ev_getR_d, MD.ev_pnil, MD.ev_pcons, MD.ev_disp, MD.ev_disp1, MD.ev_len0, MD.ev_lenS, MD.ev_app0, MD.ev_appS, MD.ev_mapN, MD.ev_pickE_int, MD.ev_pickE_bl, MD.ev_ixN, MD.ev_cast, Nat.reduceAdd, Nat.reduceSub, Nat.reduceMul, Nat.reduceLT, Nat.reduceLeDiff, Nat.reduceEqDiff, Int.reduceAdd, Int.reduceSub, Int.reduceMul, Int.reduceNeg, Int.reduceLT, Int.reduceLE, Int.reduceEq, Int.reduceToNat, MD.nl_int, MD.nl_bl, MD.nl_non, MD.nl_str, MD.nl_tup, MD.nls_nil, MD.nls_cons, List.length_map, List.length_replicate, List.length_range, MD.ev_cut, MD.ev_part0, MD.ev_part1, MD.ev_partI, MD.ev_cutT, MD.ev_cutL, MD.ev_cutSc, MD.ev_eqB, MD.ev_neB, MD.ev_btt, MD.ev_btf, MD.ev_bft, MD.ev_bff, MD.ev_neL0, MD.ev_callR, MD.ev_start0, MD.ev_startS, MD.ev_repl0, MD.ev_replS, ↓reduceIte, $as,*] at $h:ident)
set_option Elab.async false
set_option linter.all false
set_option maxRecDepth 100000
set_option maxHeartbeats 1000000
/-! tuples in the place of lists, at each depth -/
namespace MD
open PySem PySem.Spec PyProof.Rows L2
mutual
def tupl : D → D
  | .tup l => .tup (tupls l)
  | .lst l => .tup (tupls l)
  | .scr l => .tup (tupls l)
  | d => d
def tupls : List D → List D
  | [] => []
  | d :: ds => tupl d :: tupls ds
end
mutual
/-- at most n deep, of rows of a million at most, nothing owned -/
def okT : Nat → D → Bool
  | _, .non => true
  | _, .bl _ => true
  | _, .int _ => true
  | _, .str _ => true
  | n + 1, .tup l => decide (l.length ≤ 1000000) && okTs n l
  | n + 1, .lst l => decide (l.length ≤ 1000000) && okTs n l
  | n + 1, .scr l => decide (l.length ≤ 1000000) && okTs n l
  | _, _ => false
def okTs : Nat → List D → Bool
  | _, [] => true
  | n, d :: ds => okT n d && okTs n ds
end
theorem tupls_map : ∀ l : List D, tupls l = l.map tupl
  | [] => by rw [tupls]; rfl
  | d :: l => by rw [tupls, tupls_map l]; rfl
theorem okTs_all {n : Nat} : ∀ l : List D, okTs n l = true ↔ ∀ x ∈ l, okT n x = true
  | [] => by simp [okTs]
  | d :: l => by simp [okTs, okTs_all l]
theorem tupl_tup {l : List D} : tupl (.tup l) = .tup (l.map tupl) := by rw [tupl, tupls_map]
theorem tupl_lst {l : List D} : tupl (.lst l) = .tup (l.map tupl) := by rw [tupl, tupls_map]
theorem tupl_scr {l : List D} : tupl (.scr l) = .tup (l.map tupl) := by rw [tupl, tupls_map]
theorem okT_tup {n : Nat} {l : List D} : okT (n + 1) (.tup l) = true ↔ l.length ≤ 1000000 ∧ ∀ x ∈ l, okT n x = true := by simp [okT, okTs_all]
theorem okT_lst {n : Nat} {l : List D} : okT (n + 1) (.lst l) = true ↔ l.length ≤ 1000000 ∧ ∀ x ∈ l, okT n x = true := by simp [okT, okTs_all]
theorem okT_scr {n : Nat} {l : List D} : okT (n + 1) (.scr l) = true ↔ l.length ≤ 1000000 ∧ ∀ x ∈ l, okT n x = true := by simp [okT, okTs_all]
theorem okT_nr : ∀ {n : Nat} {d : D}, okT n d = true → noRef d = true := by
  intro n
  induction n with
  | zero =>
    intro d h
    cases d <;> first | rfl | (simp [okT] at h)
  | succ n ih =>
    intro d h
    have key : ∀ l : List D, (∀ x ∈ l, okT n x = true) → noRefs l = true := fun l hl => by
      have := nrs_map (f := id) (l := l) fun x hx => ih (hl x hx)
      rwa [List.map_id] at this
    cases d with
    | tup l => rw [nr_tup]; exact key l (okT_tup.mp h).2
    | lst l => rw [nr_lst]; exact key l (okT_lst.mp h).2
    | scr l => rw [nr_scr]; exact key l (okT_scr.mp h).2
    | _ => first | rfl | (simp [okT] at h)
theorem okT_tupl' : ∀ {n : Nat} {d : D}, okT n d = true → okT n (tupl d) = true := by
  intro n
  induction n with
  | zero =>
    intro d h
    cases d <;> first | exact h | (simp [okT] at h)
  | succ n ih =>
    intro d h
    have key : ∀ l : List D, l.length ≤ 1000000 ∧ (∀ x ∈ l, okT n x = true) → okT (n + 1) (.tup (l.map tupl)) = true := fun l hl => okT_tup.mpr ⟨by simpa using hl.1, fun x hx => by
      obtain ⟨y, hy, rfl⟩ := List.mem_map.mp hx
      exact ih (hl.2 y hy)⟩
    cases d with
    | tup l => rw [tupl_tup]; exact key l (okT_tup.mp h)
    | lst l => rw [tupl_lst]; exact key l (okT_lst.mp h)
    | scr l => rw [tupl_scr]; exact key l (okT_scr.mp h)
    | _ => exact h
/-- the shape stays -/
theorem okT_tupl : ∀ {n : Nat} {d : D}, okT n (tupl d) = true → okT n d = true := by
  intro n
  induction n with
  | zero =>
    intro d h
    cases d <;> first | exact h | (simp [tupl, okT] at h)
  | succ n ih =>
    intro d h
    cases d with
    | tup l => rw [tupl_tup, okT_tup] at h; exact okT_tup.mpr ⟨by simpa using h.1, fun x hx => ih (h.2 _ (List.mem_map.mpr ⟨x, hx, rfl⟩))⟩
    | lst l => rw [tupl_lst, okT_tup] at h; exact okT_lst.mpr ⟨by simpa using h.1, fun x hx => ih (h.2 _ (List.mem_map.mpr ⟨x, hx, rfl⟩))⟩
    | scr l => rw [tupl_scr, okT_tup] at h; exact okT_scr.mpr ⟨by simpa using h.1, fun x hx => ih (h.2 _ (List.mem_map.mpr ⟨x, hx, rfl⟩))⟩
    | _ => exact h
/-- how many tuples, lists stand in it -/
def nodes : Nat → D → Nat
  | n + 1, .tup l => 1 + (l.map (nodes n)).sum
  | n + 1, .lst l => 1 + (l.map (nodes n)).sum
  | _, _ => 0
end MD
set_option linter.all false
/-! lattices in the plane, rooms and steps gone either way: no program here -/
namespace LT
abbrev V2 := Int × Int
def det (v w : V2) : Int := v.1 * w.2 - v.2 * w.1
structure Lat (P : V2 → Prop) : Prop where
  zero : P (0, 0)
  sub : ∀ v w q, P v → P w → P (v.1 - q * w.1, v.2 - q * w.2)
theorem Lat.add {P : V2 → Prop} (h : Lat P) {v w : V2} (a : P v) (b : P w) : P (v.1 + w.1, v.2 + w.2) := by
  have := h.sub v w (-1) a b
  have e : (v.1 - -1 * w.1, v.2 - -1 * w.2) = ((v.1 + w.1, v.2 + w.2) : V2) := by
    apply Prod.ext <;> simp <;> omega
  rw [e] at this; exact this
theorem Lat.mul {P : V2 → Prop} (h : Lat P) {v : V2} (q : Int) (a : P v) : P (q * v.1, q * v.2) := by
  have := h.sub (0, 0) v (-q) h.zero a
  have e : ((0, 0) : V2).1 - -q * v.1 = q * v.1 := by simp [Int.neg_mul]
  have e2 : ((0, 0) : V2).2 - -q * v.2 = q * v.2 := by simp [Int.neg_mul]
  rw [e, e2] at this; exact this
theorem Lat.neg {P : V2 → Prop} (h : Lat P) {v : V2} (a : P v) : P (-v.1, -v.2) := by
  have := h.mul (-1) a
  have e : (-1 * v.1, -1 * v.2) = ((-v.1, -v.2) : V2) := by apply Prod.ext <;> simp
  rw [e] at this; exact this
theorem Lat.diff {P : V2 → Prop} (h : Lat P) {v w : V2} (a : P v) (b : P w) : P (v.1 - w.1, v.2 - w.2) := by
  have := h.sub v w 1 a b
  simp only [Int.one_mul] at this; exact this
def Span (g : List V2) (v : V2) : Prop := ∀ P, Lat P → (∀ w ∈ g, P w) → P v
theorem span_lat (g : List V2) : Lat (Span g) := ⟨fun P h _ => h.zero, fun v w q a b P h hg => h.sub v w q (a P h hg) (b P h hg)⟩
theorem span_mem {g : List V2} {v : V2} (h : v ∈ g) : Span g v := fun P _ hg => hg v h
theorem span_le {g : List V2} {P : V2 → Prop} (h : Lat P) (hg : ∀ w ∈ g, P w) {v : V2} (hv : Span g v) : P v := hv P h hg
theorem dvd_sub_mul {c a b q : Int} (h : c ∣ a) (k : c ∣ b) : c ∣ a - q * b := Int.dvd_sub h (Int.dvd_mul_of_dvd_right k)
/-- a divisor of all numbers divides those of sums -/
theorem span_dvd {g : List V2} {c : Int} (h : ∀ w ∈ g, c ∣ w.1 ∧ c ∣ w.2) {v : V2} (hv : Span g v) : c ∣ v.1 ∧ c ∣ v.2 :=
  span_le (P := fun v => c ∣ v.1 ∧ c ∣ v.2) ⟨⟨Int.dvd_zero c, Int.dvd_zero c⟩, fun v w q a b => ⟨dvd_sub_mul a.1 b.1, dvd_sub_mul a.2 b.2⟩⟩ h hv
theorem det_sub (v w u : V2) (q : Int) : det (v.1 - q * w.1, v.2 - q * w.2) u = det v u - q * det w u := by
  unfold det; simp only [Int.sub_mul, Int.mul_sub, Int.mul_assoc]; omega
theorem det_sub' (v w u : V2) (q : Int) : det u (v.1 - q * w.1, v.2 - q * w.2) = det u v - q * det u w := by
  unfold det
  simp only [Int.mul_sub]
  have e1 : u.1 * (q * w.2) = q * (u.1 * w.2) := by rw [← Int.mul_assoc, Int.mul_comm u.1 q, Int.mul_assoc]
  have e2 : u.2 * (q * w.1) = q * (u.2 * w.1) := by rw [← Int.mul_assoc, Int.mul_comm u.2 q, Int.mul_assoc]
  omega
theorem det_self (v : V2) : det v v = 0 := by unfold det; rw [Int.mul_comm]; omega
theorem det_anti (v w : V2) : det w v = - det v w := by unfold det; rw [Int.mul_comm w.1, Int.mul_comm w.2]; omega
theorem span_det {g : List V2} {c : Int} (h : ∀ v ∈ g, ∀ w ∈ g, c ∣ det v w) {v : V2} (hv : Span g v) : ∀ w ∈ g, c ∣ det v w := fun w hw =>
  span_le (P := fun v => c ∣ det v w) ⟨by simp [det], fun v u q a b => by rw [det_sub]; exact dvd_sub_mul a b⟩ (fun v hv => h v hv w hw) hv

/-! ### brought down -/
structure Down (f s : Option V2) : Prop where
  f0 : ∀ v, f = some v → 0 < v.1
  s0 : ∀ v, s = some v → v.1 = 0 ∧ 0 < v.2
  fs : ∀ v w, f = some v → s = some w → 0 ≤ v.2 ∧ v.2 < w.2
def mem2 (f s : Option V2) (v : V2) : Prop := match f, s with
  | none, none => v = (0, 0)
  | some a, none => ∃ k, v = (k * a.1, k * a.2)
  | none, some d => ∃ l, v = (l * d.1, l * d.2)
  | some a, some d => ∃ k l, v = (k * a.1 + l * d.1, k * a.2 + l * d.2)
theorem mem2_iff {f s : Option V2} {v : V2} : mem2 f s v ↔ ∃ k l : Int, (f = none → k = 0) ∧ (s = none → l = 0) ∧ v = (k * (f.getD (0, 0)).1 + l * (s.getD (0, 0)).1, k * (f.getD (0, 0)).2 + l * (s.getD (0, 0)).2) := by
  constructor
  · intro h
    cases f with
    | none =>
      cases s with
      | none => exact ⟨0, 0, fun _ => rfl, fun _ => rfl, by simp [mem2] at h ⊢; exact h⟩
      | some d =>
        obtain ⟨l, h⟩ := h
        exact ⟨0, l, fun _ => rfl, (fun e => nomatch e), by simp [h]⟩
    | some a =>
      cases s with
      | none =>
        obtain ⟨k, h⟩ := h
        exact ⟨k, 0, (fun e => nomatch e), fun _ => rfl, by simp [h]⟩
      | some d =>
        obtain ⟨k, l, h⟩ := h
        exact ⟨k, l, (fun e => nomatch e), (fun e => nomatch e), by simp [h]⟩
  · rintro ⟨k, l, h1, h2, h⟩
    cases f with
    | none =>
      cases s with
      | none => simpa [mem2, h1, h2] using h
      | some d => exact ⟨l, by simpa using h⟩
    | some a =>
      cases s with
      | none => exact ⟨k, by simpa using h⟩
      | some d => exact ⟨k, l, by simpa using h⟩
theorem mem2_lat (f s : Option V2) : Lat (mem2 f s) := by
  refine ⟨mem2_iff.mpr ⟨0, 0, fun _ => rfl, fun _ => rfl, by simp⟩, fun v w q a b => ?_⟩
  obtain ⟨k, l, h1, h2, h⟩ := mem2_iff.mp a
  obtain ⟨k', l', h1', h2', h'⟩ := mem2_iff.mp b
  refine mem2_iff.mpr ⟨k - q * k', l - q * l', fun e => by simp [h1 e, h1' e], fun e => by simp [h2 e, h2' e], ?_⟩
  subst h h'
  simp only [Prod.mk.injEq]
  constructor <;> simp only [Int.sub_mul, Int.mul_add, Int.mul_assoc] <;> omega
def gens (f s : Option V2) : List V2 := f.toList ++ s.toList
theorem span_mem2 {f s : Option V2} {v : V2} : Span (gens f s) v ↔ mem2 f s v := by
  constructor
  · refine fun h => span_le (mem2_lat f s) (fun w hw => ?_) h
    unfold gens at hw
    rcases List.mem_append.mp hw with hw | hw
    · have e : f = some w := by cases f <;> simp_all
      subst e
      refine mem2_iff.mpr ⟨1, 0, (fun e => nomatch e), fun _ => rfl, by simp⟩
    · have e : s = some w := by cases s <;> simp_all
      subst e
      refine mem2_iff.mpr ⟨0, 1, fun _ => rfl, (fun e => nomatch e), by simp⟩
  · intro h
    obtain ⟨k, l, h1, h2, h⟩ := mem2_iff.mp h
    have hf : Span (gens f s) (k * (f.getD (0, 0)).1, k * (f.getD (0, 0)).2) := by
      cases f with
      | none => simpa [h1] using (span_lat (gens none s)).zero
      | some a => exact (span_lat _).mul k (span_mem (by simp [gens]))
    have hs : Span (gens f s) (l * (s.getD (0, 0)).1, l * (s.getD (0, 0)).2) := by
      cases s with
      | none => simpa [h2] using (span_lat (gens f none)).zero
      | some a => exact (span_lat _).mul l (span_mem (by simp [gens]))
    have := (span_lat (gens f s)).add hf hs
    rw [h]; exact this
theorem mul_cancel {a k : Int} (ha : a ≠ 0) (h : k * a = 0) : k = 0 := by
  rcases Int.mul_eq_zero.mp h with h | h
  · exact h
  · exact absurd h ha
theorem dvd_antisymm {a b : Int} (ha : 0 < a) (hb : 0 < b) (h : a ∣ b) (k : b ∣ a) : a = b := Int.le_antisymm (Int.le_of_dvd hb h) (Int.le_of_dvd ha k)
/-- what divides first numbers of a span with a first one -/
theorem down_fst {f s : Option V2} (d : Down f s) {v : V2} (h : mem2 f s v) : (f = none → v.1 = 0) ∧ (∀ a, f = some a → a.1 ∣ v.1) := by
  obtain ⟨k, l, h1, h2, h⟩ := mem2_iff.mp h
  have hs : l * (s.getD (0, 0)).1 = 0 := by
    cases s with
    | none => simp [h2]
    | some w => simp [(d.s0 w rfl).1]
  constructor
  · intro e
    rw [h]; simp [h1 e, hs]
  · intro a e
    subst e
    rw [h]; simp only [Option.getD_some, hs, Int.add_zero]
    exact Int.dvd_mul_left k a.1
theorem down_snd {f s : Option V2} (d : Down f s) {v : V2} (h : mem2 f s v) (h0 : v.1 = 0) : (s = none → v.2 = 0) ∧ (∀ a, s = some a → a.2 ∣ v.2) := by
  obtain ⟨k, l, h1, h2, h⟩ := mem2_iff.mp h
  have hs : l * (s.getD (0, 0)).1 = 0 := by
    cases s with
    | none => simp [h2]
    | some w => simp [(d.s0 w rfl).1]
  have hk : k * (f.getD (0, 0)).1 = 0 := by rw [h] at h0; simp only [hs, Int.add_zero] at h0; exact h0
  have hk2 : k * (f.getD (0, 0)).2 = 0 := by
    cases f with
    | none => simp [h1]
    | some w =>
      have := d.f0 w rfl
      have hk : k * w.1 = 0 := hk
      rw [mul_cancel (by omega) hk]; simp
  constructor
  · intro e
    rw [h]; simp [h2 e, hk2]
  · intro a e
    subst e
    rw [h]; simp only [Option.getD_some, hk2, Int.zero_add]
    exact Int.dvd_mul_left l a.2
theorem mem2_f {a : V2} {s : Option V2} : mem2 (some a) s a := mem2_iff.mpr ⟨1, 0, (fun e => nomatch e), fun _ => rfl, by simp⟩
theorem mem2_s {a : V2} {f : Option V2} : mem2 f (some a) a := mem2_iff.mpr ⟨0, 1, fun _ => rfl, (fun e => nomatch e), by simp⟩
theorem down_unique {f s f' s' : Option V2} (d : Down f s) (d' : Down f' s') (h : ∀ v, mem2 f s v ↔ mem2 f' s' v) : f = f' ∧ s = s' := by
  have hs : s = s' := by
    cases s with
    | none =>
      cases s' with
      | none => rfl
      | some w =>
        have h1 := (down_snd d ((h w).mpr mem2_s) (d'.s0 w rfl).1).1 rfl
        have h2 := (d'.s0 w rfl).2
        omega
    | some u =>
      have hu := d.s0 u rfl
      cases s' with
      | none =>
        have h1 := (down_snd d' ((h u).mp mem2_s) hu.1).1 rfl
        omega
      | some w =>
        have hw := d'.s0 w rfl
        have e1 := (down_snd d ((h w).mpr mem2_s) hw.1).2 u rfl
        have e2 := (down_snd d' ((h u).mp mem2_s) hu.1).2 w rfl
        have e := dvd_antisymm hu.2 hw.2 e1 e2
        congr 1
        exact Prod.ext (by rw [hu.1, hw.1]) e
  subst hs
  refine ⟨?_, rfl⟩
  cases f with
  | none =>
    cases f' with
    | none => rfl
    | some w =>
      have h1 := (down_fst d ((h w).mpr mem2_f)).1 rfl
      have h2 := d'.f0 w rfl
      have h1 : w.1 = 0 := h1
      omega
  | some u =>
    have hu := d.f0 u rfl
    cases f' with
    | none =>
      have h1 := (down_fst d' ((h u).mp mem2_f)).1 rfl
      omega
    | some w =>
      have hw := d'.f0 w rfl
      have e1 := (down_fst d ((h w).mpr mem2_f)).2 u rfl
      have e2 := (down_fst d' ((h u).mp mem2_f)).2 w rfl
      have e := dvd_antisymm hu hw e1 e2
      have hd := (mem2_lat (some u) s).diff ((h w).mpr mem2_f) mem2_f
      have hz : ((w.1 - u.1, w.2 - u.2) : V2).1 = 0 := by simp; omega
      have := down_snd d hd hz
      congr 1
      refine Prod.ext e ?_
      cases s with
      | none => have := this.1 rfl; simp at this; omega
      | some t =>
        have h3 := this.2 t rfl
        have h4 := d.fs u t rfl rfl
        have h5 := d'.fs w t rfl rfl
        simp only at h3
        have h6 : w.2 - u.2 = 0 := by
          rcases Int.lt_trichotomy (w.2 - u.2) 0 with q | q | q
          · have := Int.le_of_dvd (by omega) (Int.dvd_neg.mpr h3); omega
          · exact q
          · have := Int.le_of_dvd q h3; omega
        omega
/-- brought down: by the first one, then by the second one -/
def redF (f : Option V2) (v : V2) : V2 := match f with
  | none => v
  | some a => (v.1 - v.1.fdiv a.1 * a.1, v.2 - v.1.fdiv a.1 * a.2)
def redS (s : Option V2) (v : V2) : V2 := match s with
  | none => v
  | some a => (v.1 - v.2.fdiv a.2 * a.1, v.2 - v.2.fdiv a.2 * a.2)
def red (f s : Option V2) (v : V2) : V2 := redS s (redF f v)
theorem fdiv_rest {x a : Int} (h : 0 < a) : 0 ≤ x - x.fdiv a * a ∧ x - x.fdiv a * a < a := by
  have e : x - x.fdiv a * a = x.fmod a := by rw [Int.fmod_def, Int.mul_comm]
  rw [e]
  exact ⟨Int.fmod_nonneg_of_pos _ h, Int.fmod_lt_of_pos _ h⟩
theorem red_fst {f s : Option V2} (d : Down f s) {v a : V2} (h : f = some a) : 0 ≤ (red f s v).1 ∧ (red f s v).1 < a.1 := by
  subst h
  have ha := d.f0 a rfl
  have e : (red (some a) s v).1 = (redF (some a) v).1 := by
    unfold red
    cases s with
    | none => rfl
    | some w => simp [redS, (d.s0 w rfl).1]
  rw [e]
  exact fdiv_rest ha
theorem red_snd {f s : Option V2} (d : Down f s) {v a : V2} (h : s = some a) : 0 ≤ (red f s v).2 ∧ (red f s v).2 < a.2 := by
  subst h
  exact fdiv_rest (d.s0 a rfl).2
theorem red_diff {f s : Option V2} (v : V2) : mem2 f s (v.1 - (red f s v).1, v.2 - (red f s v).2) := by
  cases f with
  | none =>
    cases s with
    | none => simp [red, redF, redS, mem2]
    | some d => exact ⟨v.2.fdiv d.2, by simp [red, redF, redS]; constructor <;> omega⟩
  | some a =>
    cases s with
    | none => exact ⟨v.1.fdiv a.1, by simp [red, redF, redS]; constructor <;> omega⟩
    | some d =>
      refine ⟨v.1.fdiv a.1, (v.2 - v.1.fdiv a.1 * a.2).fdiv d.2, ?_⟩
      simp only [red, redF, redS, Prod.mk.injEq]
      constructor <;> omega
theorem red_zero {f s : Option V2} : red f s (0, 0) = (0, 0) := by
  cases f <;> cases s <;> simp [red, redF, redS]
/-- what is brought down is (0, 0) just of a member -/
theorem red_mem {f s : Option V2} (d : Down f s) {v : V2} (h : mem2 f s v) : red f s v = (0, 0) := by
  have hr : mem2 f s (red f s v) := by
    have := (mem2_lat f s).diff h (red_diff (f := f) (s := s) v)
    have e : ((v.1 - (v.1 - (red f s v).1), v.2 - (v.2 - (red f s v).2)) : V2) = red f s v := by apply Prod.ext <;> simp <;> omega
    rw [e] at this; exact this
  have h1 : (red f s v).1 = 0 := by
    have q := down_fst d hr
    cases f with
    | none => exact q.1 rfl
    | some a =>
      have := red_fst d (v := v) (a := a) rfl
      have q := q.2 a rfl
      rcases Int.lt_or_eq_of_le this.1 with z | z
      · have := Int.le_of_dvd z q; omega
      · exact z.symm
  have q := down_snd d hr h1
  refine Prod.ext h1 ?_
  cases s with
  | none => exact q.1 rfl
  | some a =>
    have := red_snd d (v := v) (a := a) rfl
    have q := q.2 a rfl
    rcases Int.lt_or_eq_of_le this.1 with z | z
    · have := Int.le_of_dvd z q; simp; omega
    · exact z.symm

/-! ### rooms and steps gone either way -/
abbrev Stp := Int × V2 × Int
inductive Path (st : List Stp) (r : Int) : Int → V2 → Prop where
  | refl : Path st r r (0, 0)
  | fwd {b c : Int} {v m : V2} : Path st r b v → (b, m, c) ∈ st → Path st r c (v.1 + m.1, v.2 + m.2)
  | bwd {b c : Int} {v m : V2} : Path st r c v → (b, m, c) ∈ st → Path st r b (v.1 - m.1, v.2 - m.2)
section
variable {st : List Stp} {r a b c : Int} {v w m : V2}
theorem Path.cast (h : Path st a b v) (e : v = w) : Path st a b w := e ▸ h
theorem Path.trans (h : Path st a b v) (k : Path st b c w) : Path st a c (v.1 + w.1, v.2 + w.2) := by
  induction k with
  | refl => exact h.cast (by simp)
  | fwd _ hs ih => exact (ih.fwd hs).cast (by simp; omega)
  | bwd _ hs ih => exact (ih.bwd hs).cast (by simp; omega)
theorem Path.symm (h : Path st a b v) : Path st b a (-v.1, -v.2) := by
  induction h with
  | refl => exact Path.refl.cast (by simp)
  | @fwd b c v m _ hs ih => exact (((Path.refl (st := st) (r := c)).bwd hs).trans ih).cast (by simp; omega)
  | @bwd b c v m _ hs ih => exact (((Path.refl (st := st) (r := b)).fwd hs).trans ih).cast (by simp; omega)
theorem path_lat (st : List Stp) (a : Int) : Lat (Path st a a) := by
  refine ⟨Path.refl, fun v w q h k => ?_⟩
  have hm : ∀ n : Nat, Path st a a ((n : Int) * w.1, (n : Int) * w.2) := by
    intro n
    induction n with
    | zero => exact Path.refl.cast (by simp)
    | succ n ih => exact (ih.trans k).cast (by simp [Int.add_mul])
  rcases Int.le_total 0 q with hq | hq
  · have e : ((q.toNat : Nat) : Int) = q := Int.toNat_of_nonneg hq
    exact (h.trans (hm q.toNat).symm).cast (by simp [e]; omega)
  · have e : (((-q).toNat : Nat) : Int) = -q := Int.toNat_of_nonneg (by omega)
    exact (h.trans (hm (-q).toNat)).cast (by simp [e, Int.neg_mul]; omega)
theorem Path.diff (h : Path st a b v) (k : Path st a b w) : Path st a a (v.1 - w.1, v.2 - w.2) := (h.trans k.symm).cast (by simp; omega)
/-- loops of one room are loops of another one of the part -/
theorem Path.loops (h : Path st a b v) : Path st a a w ↔ Path st b b w := by
  constructor
  · intro k; exact ((h.symm.trans k).trans h).cast (by apply Prod.ext <;> simp <;> omega)
  · intro k; exact ((h.trans k).trans h.symm).cast (by apply Prod.ext <;> simp <;> omega)
/-- gaps: for each room of the part a way to it -/
structure Gaps (st : List Stp) (r : Int) (g : Int → Option V2) : Prop where
  at0 : g r = some (0, 0)
  sound : ∀ k v, g k = some v → Path st r k v
  shut : ∀ a m b, (a, m, b) ∈ st → ((g a).isSome ↔ (g b).isSome)
def loopsOf (st : List Stp) (g : Int → Option V2) : List V2 := st.filterMap fun s => match g s.1, g s.2.2 with
  | some v, some w => some (v.1 + s.2.1.1 - w.1, v.2 + s.2.1.2 - w.2)
  | _, _ => none
theorem Gaps.some {g : Int → Option V2} (G : Gaps st r g) (h : Path st r b v) : ∃ w, g b = some w ∧ Span (loopsOf st g) (v.1 - w.1, v.2 - w.2) := by
  induction h with
  | refl => exact ⟨_, G.at0, (by simpa using (span_lat (loopsOf st g)).zero)⟩
  | @fwd b c v m _ hs ih =>
    obtain ⟨w, hw, hl⟩ := ih
    have h2 : (g c).isSome := (G.shut b m c hs).mp (by rw [hw]; rfl)
    obtain ⟨u, hu⟩ := Option.isSome_iff_exists.mp h2
    refine ⟨u, hu, ?_⟩
    have hm : (w.1 + m.1 - u.1, w.2 + m.2 - u.2) ∈ loopsOf st g := List.mem_filterMap.mpr ⟨_, hs, by simp [hw, hu]⟩
    have := (span_lat _).add hl (span_mem hm)
    have e : ((v.1 - w.1 + (w.1 + m.1 - u.1), v.2 - w.2 + (w.2 + m.2 - u.2)) : V2) = (v.1 + m.1 - u.1, v.2 + m.2 - u.2) := by apply Prod.ext <;> simp <;> omega
    simp only at this ⊢
    rw [e] at this; exact this
  | @bwd b c v m _ hs ih =>
    obtain ⟨w, hw, hl⟩ := ih
    have h2 : (g b).isSome := (G.shut b m c hs).mpr (by rw [hw]; rfl)
    obtain ⟨u, hu⟩ := Option.isSome_iff_exists.mp h2
    refine ⟨u, hu, ?_⟩
    have hm : (u.1 + m.1 - w.1, u.2 + m.2 - w.2) ∈ loopsOf st g := List.mem_filterMap.mpr ⟨_, hs, by simp [hw, hu]⟩
    have := (span_lat _).diff hl (span_mem hm)
    have e : ((v.1 - w.1 - (u.1 + m.1 - w.1), v.2 - w.2 - (u.2 + m.2 - w.2)) : V2) = (v.1 - m.1 - u.1, v.2 - m.2 - u.2) := by apply Prod.ext <;> simp <;> omega
    simp only at this ⊢
    rw [e] at this; exact this
theorem Gaps.span {g : Int → Option V2} (G : Gaps st r g) : Span (loopsOf st g) v ↔ Path st r r v := by
  constructor
  · refine span_le (path_lat st r) fun w hw => ?_
    obtain ⟨s, hs, e⟩ := List.mem_filterMap.mp hw
    obtain ⟨a, m, b⟩ := s
    simp only at e
    split at e
    · rename_i x y hx hy
      have e := Option.some.inj e
      rw [← e]
      exact (((G.sound _ _ hx).fwd hs).trans (G.sound _ _ hy).symm).cast (by simp; omega)
    · cases e
  · intro h
    obtain ⟨w, hw, hl⟩ := G.some h
    rw [G.at0] at hw
    have := Option.some.inj hw
    rw [← this] at hl
    simpa using hl
theorem Gaps.iff {g : Int → Option V2} (G : Gaps st r g) : (g b).isSome ↔ ∃ v, Path st r b v := by
  constructor
  · intro h
    obtain ⟨v, hv⟩ := Option.isSome_iff_exists.mp h
    exact ⟨v, G.sound b v hv⟩
  · rintro ⟨v, h⟩
    obtain ⟨w, hw, _⟩ := G.some h
    rw [hw]; rfl
end
end LT
set_option linter.all false
/-! pairs (MOVE, row): what Euclid's steps do with them; no program here -/
namespace LT
abbrev Own := V2 × List Int
def lessO (x y : Own) (q : Int) : Own := ((x.1.1 - q * y.1.1, x.1.2 - q * y.1.2), List.zipWith (fun n f => n - q * f) x.2 y.2)
def negO (x : Own) : Own := ((-1 * x.1.1, -1 * x.1.2), x.2.map fun i => -i)
/-- closed kinds of pairs with rows of n numbers -/
structure Clo (n : Nat) (P : Own → Prop) : Prop where
  sub : ∀ x y q, x.2.length = n → y.2.length = n → P x → P y → P (lessO x y q)
theorem lessO_len {x y : Own} {q : Int} {n : Nat} (h : x.2.length = n) (k : y.2.length = n) : (lessO x y q).2.length = n := by
  simp [lessO, h, k]
theorem negO_len {x : Own} {n : Nat} (h : x.2.length = n) : (negO x).2.length = n := by simp [negO, h]
def mE (o : Own) (e : Int) : Prop := e = o.1.1 ∨ e = o.1.2
def rE (o : Own) (e : Int) : Prop := e ∈ o.2
theorem mE_less {x y : Own} {q e : Int} (h : mE (lessO x y q) e) : ∃ a b, mE x a ∧ mE y b ∧ e = a - q * b := by
  rcases h with h | h
  · exact ⟨_, _, .inl rfl, .inl rfl, h⟩
  · exact ⟨_, _, .inr rfl, .inr rfl, h⟩
theorem rE_less {x y : Own} {q e : Int} (h : rE (lessO x y q) e) : ∃ a b, rE x a ∧ rE y b ∧ e = a - q * b := by
  have h : e ∈ List.zipWith (fun n f => n - q * f) x.2 y.2 := h
  rw [List.zipWith_eq_zipWith_take_min] at h
  rw [← List.map_uncurry_zip_eq_zipWith] at h
  obtain ⟨p, hp, e1⟩ := List.mem_map.mp h
  have h2 := List.of_mem_zip (a := p.1) (b := p.2) hp
  exact ⟨p.1, p.2, List.mem_of_mem_take h2.1, List.mem_of_mem_take h2.2, e1.symm⟩
/-- bounds -/
def bM (A : Nat) (o : Own) : Prop := ∀ e, mE o e → e.natAbs < 2 ^ A
def bR (B : Nat) (o : Own) : Prop := ∀ e, rE o e → e.natAbs < 2 ^ B
theorem pow_le {a b : Nat} (h : a ≤ b) : 2 ^ a ≤ 2 ^ b := Nat.pow_le_pow_right (by decide) h
theorem bM.mono {A B : Nat} {o : Own} (h : bM A o) (k : A ≤ B) : bM B o := fun e he => Nat.lt_of_lt_of_le (h e he) (pow_le k)
theorem bR.mono {A B : Nat} {o : Own} (h : bR A o) (k : A ≤ B) : bR B o := fun e he => Nat.lt_of_lt_of_le (h e he) (pow_le k)
theorem abs_sub_mul (a b q : Int) : (a - q * b).natAbs ≤ a.natAbs + q.natAbs * b.natAbs := by
  have := Int.natAbs_sub_le a (q * b)
  rw [Int.natAbs_mul] at this
  exact this
theorem less_bound {A a b : Nat} {x y q : Int} (hx : x.natAbs < 2 ^ a) (hy : y.natAbs < 2 ^ b) (hq : q.natAbs < 2 ^ A) : (x - q * y).natAbs < 2 ^ (max a (A + b) + 1) := by
  have h1 := abs_sub_mul x y q
  have h2 : q.natAbs * y.natAbs ≤ 2 ^ A * 2 ^ b := Nat.mul_le_mul (Nat.le_of_lt hq) (Nat.le_of_lt hy)
  rw [← Nat.pow_add] at h2
  have h3 := pow_le (Nat.le_max_left a (A + b))
  have h4 := pow_le (Nat.le_max_right a (A + b))
  rw [Nat.pow_succ]
  omega
theorem less_bM {A a b : Nat} {x y : Own} {q : Int} (hx : bM a x) (hy : bM b y) (hq : q.natAbs < 2 ^ A) : bM (max a (A + b) + 1) (lessO x y q) := fun e he => by
  obtain ⟨u, v, hu, hv, rfl⟩ := mE_less he
  exact less_bound (hx u hu) (hy v hv) hq
theorem less_bR {A a b : Nat} {x y : Own} {q : Int} (hx : bR a x) (hy : bR b y) (hq : q.natAbs < 2 ^ A) : bR (max a (A + b) + 1) (lessO x y q) := fun e he => by
  obtain ⟨u, v, hu, hv, rfl⟩ := rE_less he
  exact less_bound (hx u hu) (hy v hv) hq
theorem neg_bM {a : Nat} {x : Own} (hx : bM a x) : bM a (negO x) := fun e he => by
  rcases he with he | he
  · rw [he]; have := hx x.1.1 (.inl rfl); simp only [negO]; omega
  · rw [he]; have := hx x.1.2 (.inr rfl); simp only [negO]; omega
theorem neg_bR {a : Nat} {x : Own} (hx : bR a x) : bR a (negO x) := fun e he => by
  obtain ⟨u, hu, rfl⟩ := List.mem_map.mp he
  have := hx u hu
  omega
/-! Euclid's step -/
theorem eu_any {x y : Int} (hy : y ≠ 0) : (x - x.fdiv y * y).natAbs < y.natAbs ∧ 0 ≤ y * (x - x.fdiv y * y) ∧ (x.fdiv y).natAbs * y.natAbs ≤ x.natAbs + y.natAbs := by
  have e : x - x.fdiv y * y = x.fmod y := by rw [Int.fmod_def, Int.mul_comm]
  have h : (x.fmod y).natAbs < y.natAbs ∧ 0 ≤ y * x.fmod y := by
    rcases Int.lt_or_gt_of_ne hy with h | h
    · have e1 : x.fmod y = -((-x).fmod (-y)) := by rw [Int.neg_fmod_neg]; omega
      have h1 := Int.fmod_nonneg_of_pos (-x) (show 0 < -y by omega)
      have h2 := Int.fmod_lt_of_pos (-x) (show 0 < -y by omega)
      rw [e1]
      refine ⟨by omega, ?_⟩
      rw [Int.mul_neg, ← Int.neg_mul]
      exact Int.mul_nonneg (by omega) h1
    · have h1 := Int.fmod_nonneg_of_pos x h
      have h2 := Int.fmod_lt_of_pos x h
      exact ⟨by omega, Int.mul_nonneg (by omega) h1⟩
  refine ⟨by rw [e]; exact h.1, by rw [e]; exact h.2, ?_⟩
  rw [← Int.natAbs_mul]
  have : x.fdiv y * y = x - x.fmod y := by rw [← e]; omega
  rw [this]
  have := Int.natAbs_sub_le x (x.fmod y)
  omega
theorem eu_same {x y : Int} (hy : y ≠ 0) (hs : 0 ≤ x * y) : (x.fdiv y).natAbs * y.natAbs + (x - x.fdiv y * y).natAbs = x.natAbs := by
  have key : ∀ x y : Int, 0 < y → 0 ≤ x → (x.fdiv y).natAbs * y.natAbs + (x - x.fdiv y * y).natAbs = x.natAbs := by
    intro x y h hx
    have e : x - x.fdiv y * y = x.fmod y := by rw [Int.fmod_def, Int.mul_comm]
    have h1 := Int.fmod_nonneg_of_pos x h
    have h3 : 0 ≤ x.fdiv y := Int.fdiv_nonneg hx (by omega)
    have h4 := Int.mul_nonneg h3 (show 0 ≤ y by omega)
    rw [← Int.natAbs_mul]
    omega
  rcases Int.lt_or_gt_of_ne hy with h | h
  · have hx : x ≤ 0 := by
      rcases Int.lt_or_le 0 x with q | q
      · have := Int.mul_pos q (show 0 < -y by omega)
        rw [Int.mul_neg] at this; omega
      · exact q
    have := key (-x) (-y) (by omega) (by omega)
    rw [Int.neg_fdiv_neg] at this
    have e2 : -x - x.fdiv y * -y = -(x - x.fdiv y * y) := by rw [Int.mul_neg]; omega
    rw [e2] at this
    simp only [Int.natAbs_neg] at this
    exact this
  · have hx : 0 ≤ x := by
      rcases Int.lt_or_le x 0 with q | q
      · have := Int.mul_pos (show 0 < -x by omega) h
        rw [Int.neg_mul] at this; omega
      · exact q
    exact key x y h hx
theorem eu_half {x y : Int} (hy : y ≠ 0) (hs : 0 ≤ x * y) (hl : y.natAbs < x.natAbs) {m : Nat} (hm : x.natAbs * y.natAbs < 2 ^ m) :
    1 ≤ m ∧ y.natAbs * (x - x.fdiv y * y).natAbs < 2 ^ (m - 1) := by
  have h1 := eu_same hy hs
  have h2 := (eu_any (x := x) hy).1
  generalize (x - x.fdiv y * y).natAbs = R at *
  generalize hq : (x.fdiv y).natAbs = Q at *
  have hY : 1 ≤ y.natAbs := by omega
  generalize y.natAbs = Y at *
  generalize x.natAbs = X at *
  have hQ : 1 ≤ Q := by
    rcases Nat.eq_zero_or_pos Q with z | z
    · subst z; simp at h1; omega
    · exact z
  have h3 : Y ≤ Q * Y := Nat.le_mul_of_pos_left Y hQ
  have hX : 2 * R ≤ X := by omega
  have hp : 1 ≤ X * Y := Nat.mul_pos (by omega) hY
  have hm1 : 1 ≤ m := by
    rcases Nat.eq_zero_or_pos m with z | z
    · subst z; omega
    · exact z
  refine ⟨hm1, ?_⟩
  have h4 : 2 * (Y * R) ≤ X * Y := by
    rw [Nat.mul_comm X Y, Nat.mul_left_comm]
    exact Nat.mul_le_mul_left Y hX
  obtain ⟨m, rfl⟩ : ∃ m', m = m' + 1 := ⟨m - 1, by omega⟩
  rw [Nat.pow_succ] at hm
  rw [Nat.add_sub_cancel]
  omega
def val (pl : Bool) (o : Own) : Int := if pl then o.1.2 else o.1.1
theorem val_less {pl : Bool} {x y : Own} {q : Int} : val pl (lessO x y q) = val pl x - q * val pl y := by cases pl <;> rfl
theorem val_mE {pl : Bool} {x : Own} : mE x (val pl x) := by
  cases pl
  · exact .inl rfl
  · exact .inr rfl
/-- how it stands between the turns of divided_on -/
structure DI (n p A B m : Nat) (pl : Bool) (x0 y0 x y : Own) : Prop where
  lx : x.2.length = n
  ly : y.2.length = n
  vx : (val pl x).natAbs < 2 ^ p
  vy : (val pl y).natAbs < 2 ^ p
  eqv : ∀ P, Clo n P → (P x0 ∧ P y0 ↔ P x ∧ P y)
  nz : val pl x0 ≠ 0 ∨ val pl y0 ≠ 0 → val pl x ≠ 0 ∨ val pl y ≠ 0
  ph : (m = 2 * p + 2 ∧ bM A x ∧ bM A y ∧ bR B x ∧ bR B y) ∨
    (m < 2 * p + 2 ∧ 0 ≤ val pl x * val pl y ∧ (val pl x).natAbs * (val pl y).natAbs < 2 ^ m ∧ (val pl y).natAbs < (val pl x).natAbs ∧
      (∀ e, mE x e ∨ mE y e → e.natAbs * (val pl x).natAbs < 2 ^ (A + p + 2 + (2 * p + 2 - m))) ∧ (∀ e, rE x e ∨ rE y e → e.natAbs * (val pl x).natAbs < 2 ^ (B + p + 2 + (2 * p + 2 - m))))
theorem DI.first {n p A B : Nat} {pl : Bool} {x y : Own} (lx : x.2.length = n) (ly : y.2.length = n) (vx : (val pl x).natAbs < 2 ^ p) (vy : (val pl y).natAbs < 2 ^ p) (h1 : bM A x) (h2 : bM A y) (h3 : bR B x) (h4 : bR B y) :
    DI n p A B (2 * p + 2) pl x y x y := ⟨lx, ly, vx, vy, fun _ _ => Iff.rfl, id, .inl ⟨rfl, h1, h2, h3, h4⟩⟩
theorem le_of_mul {e v T : Nat} (hv : 1 ≤ v) (h : e * v < T) : e < T := Nat.lt_of_le_of_lt (Nat.le_mul_of_pos_right e hv) h
theorem DI.bounds {n p A B m : Nat} {pl : Bool} {x0 y0 x y : Own} (h : DI n p A B m pl x0 y0 x y) : bM (A + 3 * p + 4) x ∧ bM (A + 3 * p + 4) y ∧ bR (B + 3 * p + 4) x ∧ bR (B + 3 * p + 4) y := by
  rcases h.ph with ⟨_, h1, h2, h3, h4⟩ | ⟨hm, _, _, hl, h1, h2⟩
  · exact ⟨h1.mono (by omega), h2.mono (by omega), h3.mono (by omega), h4.mono (by omega)⟩
  · have hv : 1 ≤ (val pl x).natAbs := by omega
    have q : ∀ C, 2 ^ (C + p + 2 + (2 * p + 2 - m)) ≤ 2 ^ (C + 3 * p + 4) := fun C => pow_le (by omega)
    exact ⟨fun e he => Nat.lt_of_lt_of_le (le_of_mul hv (h1 e (.inl he))) (q A), fun e he => Nat.lt_of_lt_of_le (le_of_mul hv (h1 e (.inr he))) (q A), fun e he => Nat.lt_of_lt_of_le (le_of_mul hv (h2 e (.inl he))) (q B), fun e he => Nat.lt_of_lt_of_le (le_of_mul hv (h2 e (.inr he))) (q B)⟩
/-- the entries behind a first step -/
theorem ent_first {A p a b Q vx vy : Nat} (ha : a < 2 ^ A) (hb : b < 2 ^ A) (hx : vx < 2 ^ p) (hy : vy < 2 ^ p) (hq : Q * vy ≤ vx + vy) : (a + Q * b) * vy < 2 ^ (A + p + 2) := by
  have h1 : a * vy ≤ 2 ^ A * 2 ^ p := Nat.mul_le_mul (Nat.le_of_lt ha) (Nat.le_of_lt hy)
  have h2 : Q * b * vy ≤ (2 ^ p + 2 ^ p) * 2 ^ A := by
    rw [Nat.mul_right_comm]
    exact Nat.mul_le_mul (Nat.le_trans hq (by omega)) (Nat.le_of_lt hb)
  rw [Nat.add_mul] at h2 ⊢
  rw [Nat.mul_comm (2 ^ p)] at h2
  have e : 2 ^ (A + p + 2) = 4 * (2 ^ A * 2 ^ p) := by rw [Nat.pow_add, Nat.pow_add]; omega
  rw [e]
  have : 0 < 2 ^ A * 2 ^ p := Nat.mul_pos (Nat.pow_pos (by decide)) (Nat.pow_pos (by decide))
  omega
theorem ent_next {T a b Q vx vy : Nat} (ha : a * vx < T) (hb : b * vx < T) (hl : vy < vx) (hq : Q * vy ≤ vx) : (a + Q * b) * vy < 2 * T := by
  have h1 : a * vy ≤ a * vx := Nat.mul_le_mul_left a (Nat.le_of_lt hl)
  have h2 : Q * b * vy ≤ b * vx := by
    rw [Nat.mul_right_comm, Nat.mul_comm]
    exact Nat.mul_le_mul_left b hq
  rw [Nat.add_mul]
  omega
theorem lessO_back (x y : Own) (q : Int) (h : x.2.length = y.2.length) : lessO (lessO x y q) y (-q) = x := by
  obtain ⟨⟨x1, x2⟩, xs⟩ := x
  obtain ⟨⟨y1, y2⟩, ys⟩ := y
  simp only [lessO, Prod.mk.injEq]
  refine ⟨⟨by rw [Int.neg_mul]; omega, by rw [Int.neg_mul]; omega⟩, ?_⟩
  have h : xs.length = ys.length := h
  induction xs generalizing ys with
  | nil => cases ys <;> simp_all
  | cons a xs ih =>
    cases ys with
    | nil => simp at h
    | cons b ys =>
      simp only [List.zipWith_cons_cons, List.cons.injEq]
      exact ⟨by rw [Int.neg_mul]; omega, ih ys (by simpa using h) (by simpa using h)⟩
theorem DI.step {n p A B m : Nat} {pl : Bool} {x0 y0 x y : Own} (h : DI n p A B m pl x0 y0 x y) (hy : val pl y ≠ 0) :
    1 ≤ m ∧ DI n p A B (m - 1) pl x0 y0 y (lessO x y ((val pl x).fdiv (val pl y))) ∧ ((val pl x).fdiv (val pl y)).natAbs ≤ 2 ^ (p + 1) := by
  have e1 := eu_any (x := val pl x) hy
  have hv : val pl (lessO x y ((val pl x).fdiv (val pl y))) = val pl x - (val pl x).fdiv (val pl y) * val pl y := val_less
  have hY : 1 ≤ (val pl y).natAbs := by omega
  have hq : ((val pl x).fdiv (val pl y)).natAbs ≤ 2 ^ (p + 1) := by
    have a := Nat.le_mul_of_pos_right ((val pl x).fdiv (val pl y)).natAbs hY
    have b := h.vx
    have c := h.vy
    rw [Nat.pow_succ]
    omega
  have heq : ∀ P, Clo n P → (P x0 ∧ P y0 ↔ P y ∧ P (lessO x y ((val pl x).fdiv (val pl y)))) := fun P c => by
    rw [h.eqv P c]
    constructor
    · rintro ⟨a, b⟩
      exact ⟨b, c.sub x y _ h.lx h.ly a b⟩
    · rintro ⟨a, b⟩
      have := c.sub _ y (-((val pl x).fdiv (val pl y))) (lessO_len h.lx h.ly) h.ly b a
      rw [lessO_back x y _ (by rw [h.lx, h.ly])] at this
      exact ⟨this, a⟩
  have hl2 : (val pl (lessO x y ((val pl x).fdiv (val pl y)))).natAbs < 2 ^ p := by
    rw [hv]; exact Nat.lt_trans e1.1 h.vy
  rcases h.ph with ⟨hm, h1, h2, h3, h4⟩ | ⟨hm, hs, hmu, hl, h1, h2⟩
  · refine ⟨by omega, ⟨h.ly, lessO_len h.lx h.ly, h.vy, hl2, heq, fun _ => .inl hy, .inr ⟨by omega, by rw [hv]; exact e1.2.1, ?_, by rw [hv]; exact e1.1, ?_, ?_⟩⟩, hq⟩
    · rw [hv]
      have a := Nat.mul_le_mul (Nat.le_of_lt h.vy) (Nat.le_of_lt (Nat.lt_trans e1.1 h.vy))
      rw [← Nat.pow_add] at a
      refine Nat.lt_of_le_of_lt a ?_
      exact Nat.pow_lt_pow_right (by decide) (by omega)
    · have eT : A + p + 2 + (2 * p + 2 - (m - 1)) = A + p + 2 + 1 := by omega
      rw [eT]
      rintro e (he | he)
      · have := ent_first (A := A) (p := p) (a := e.natAbs) (b := 0) (Q := 0) (h2 e he) (Nat.pow_pos (by decide)) h.vx h.vy (by omega)
        rw [Nat.pow_succ]
        simp at this
        omega
      · obtain ⟨a, b, ha, hb, rfl⟩ := mE_less he
        have := ent_first (h1 a ha) (h2 b hb) h.vx h.vy e1.2.2
        have := Nat.lt_of_le_of_lt (Nat.mul_le_mul_right (val pl y).natAbs (abs_sub_mul a b ((val pl x).fdiv (val pl y)))) this
        rw [Nat.pow_succ]
        omega
    · have eT : B + p + 2 + (2 * p + 2 - (m - 1)) = B + p + 2 + 1 := by omega
      rw [eT]
      rintro e (he | he)
      · have := ent_first (A := B) (p := p) (a := e.natAbs) (b := 0) (Q := 0) (h4 e he) (Nat.pow_pos (by decide)) h.vx h.vy (by omega)
        rw [Nat.pow_succ]
        simp at this
        omega
      · obtain ⟨a, b, ha, hb, rfl⟩ := rE_less he
        have := ent_first (h3 a ha) (h4 b hb) h.vx h.vy e1.2.2
        have := Nat.lt_of_le_of_lt (Nat.mul_le_mul_right (val pl y).natAbs (abs_sub_mul a b ((val pl x).fdiv (val pl y)))) this
        rw [Nat.pow_succ]
        omega
  · obtain ⟨hm1, hm2⟩ := eu_half hy hs hl hmu
    have hsame := eu_same hy hs
    have hq2 : ((val pl x).fdiv (val pl y)).natAbs * (val pl y).natAbs ≤ (val pl x).natAbs := by omega
    refine ⟨hm1, ⟨h.ly, lessO_len h.lx h.ly, h.vy, hl2, heq, fun _ => .inl hy, .inr ⟨by omega, by rw [hv]; exact e1.2.1, by rw [hv]; exact hm2, by rw [hv]; exact e1.1, ?_, ?_⟩⟩, hq⟩
    · have eT : A + p + 2 + (2 * p + 2 - (m - 1)) = A + p + 2 + (2 * p + 2 - m) + 1 := by omega
      rw [eT, Nat.pow_succ]
      rintro e (he | he)
      · have := h1 e (.inr he)
        have := Nat.mul_le_mul_left e.natAbs (Nat.le_of_lt hl)
        omega
      · obtain ⟨a, b, ha, hb, rfl⟩ := mE_less he
        have := ent_next (h1 a (.inl ha)) (h1 b (.inr hb)) hl hq2
        have := Nat.lt_of_le_of_lt (Nat.mul_le_mul_right (val pl y).natAbs (abs_sub_mul a b ((val pl x).fdiv (val pl y)))) this
        omega
    · have eT : B + p + 2 + (2 * p + 2 - (m - 1)) = B + p + 2 + (2 * p + 2 - m) + 1 := by omega
      rw [eT, Nat.pow_succ]
      rintro e (he | he)
      · have := h2 e (.inr he)
        have := Nat.mul_le_mul_left e.natAbs (Nat.le_of_lt hl)
        omega
      · obtain ⟨a, b, ha, hb, rfl⟩ := rE_less he
        have := ent_next (h2 a (.inl ha)) (h2 b (.inr hb)) hl hq2
        have := Nat.lt_of_le_of_lt (Nat.mul_le_mul_right (val pl y).natAbs (abs_sub_mul a b ((val pl x).fdiv (val pl y)))) this
        omega
end LT
namespace LT
theorem negO_less (x : Own) : negO x = lessO x x 2 := by
  obtain ⟨⟨a, b⟩, r⟩ := x
  simp only [negO, lessO, Prod.mk.injEq]
  refine ⟨⟨by omega, by omega⟩, ?_⟩
  induction r with
  | nil => rfl
  | cons h t ih =>
    simp only [List.map_cons, List.zipWith_cons_cons, List.cons.injEq]
    exact ⟨by omega, ih⟩
theorem clo_of_lat {P : V2 → Prop} (h : Lat P) (n : Nat) : Clo n fun o => P o.1 := ⟨fun x y q _ _ a b => h.sub x.1 y.1 q a b⟩
/-- how it stands between the turns of lattice_in; i: how many are behind -/
structure LI (n i : Nat) (ls xs : List Own) (f s : Option Own) : Prop where
  ub : i + xs.length = ls.length
  sub : ∀ x ∈ xs, x ∈ ls
  fl : ∀ o, f = some o → o.2.length = n ∧ o.1.1 ≠ 0 ∧ o.1.1.natAbs < 2 ^ 7 ∧ bM (7 + 30 * i) o ∧ bR (8 + 2000 * i) o
  sl : ∀ o, s = some o → o.2.length = n ∧ o.1.1 = 0 ∧ o.1.2 ≠ 0 ∧ o.1.2.natAbs < 2 ^ 600 ∧ bR (8 + 2000 * i) o
  eqv : ∀ P, Lat P → ((∀ o, f = some o → P o.1) ∧ (∀ o, s = some o → P o.1) ∧ (∀ x ∈ xs, P x.1) ↔ ∀ x ∈ ls, P x.1)
  fwd : ∀ P, Clo n P → (∀ x ∈ ls, P x) → (∀ o, f = some o → P o) ∧ (∀ o, s = some o → P o)
theorem LI.start {n : Nat} {ls : List Own} : LI n 0 ls ls none none :=
  ⟨Nat.zero_add _, fun _ h => h, (fun _ e => nomatch e), (fun _ e => nomatch e), fun P _ => ⟨fun h => h.2.2, fun h => ⟨(fun _ e => nomatch e), (fun _ e => nomatch e), h⟩⟩, fun P _ _ => ⟨(fun _ e => nomatch e), (fun _ e => nomatch e)⟩⟩
/-- what stands between the two halves of a turn: f is done, `here` is left, whose first number is 0 -/
structure LH (n i : Nat) (ls xs : List Own) (f s : Option Own) (here : Own) : Prop where
  ub : i + 1 + xs.length = ls.length
  sub : ∀ x ∈ xs, x ∈ ls
  fl : ∀ o, f = some o → o.2.length = n ∧ o.1.1 ≠ 0 ∧ o.1.1.natAbs < 2 ^ 7 ∧ bM (7 + 30 * (i + 1)) o ∧ bR (8 + 2000 * (i + 1)) o
  sl : ∀ o, s = some o → o.2.length = n ∧ o.1.1 = 0 ∧ o.1.2 ≠ 0 ∧ o.1.2.natAbs < 2 ^ 600 ∧ bR (8 + 2000 * i) o
  hl : here.2.length = n ∧ here.1.1 = 0 ∧ bM (7 + 30 * (i + 1)) here ∧ bR (8 + 2000 * i + 25) here
  eqv : ∀ P, Lat P → ((∀ o, f = some o → P o.1) ∧ (∀ o, s = some o → P o.1) ∧ P here.1 ∧ (∀ x ∈ xs, P x.1) ↔ ∀ x ∈ ls, P x.1)
  fwd : ∀ P, Clo n P → (∀ x ∈ ls, P x) → (∀ o, f = some o → P o) ∧ (∀ o, s = some o → P o) ∧ P here
section
variable {n i : Nat} {ls xs : List Own} {f s : Option Own} {x here : Own}
/-- the first number is 0 at once -/
theorem LI.half0 (h : LI n i ls (x :: xs) f s) (hx : x.2.length = n ∧ bM 7 x ∧ bR 8 x) (h0 : x.1.1 = 0) : LH n i ls xs f s x where
  ub := by have := h.ub; rw [List.length_cons] at this; omega
  sub := fun y hy => h.sub y (List.mem_cons_of_mem _ hy)
  fl := fun o e => let ⟨a, b, c, d, g⟩ := h.fl o e; ⟨a, b, c, d.mono (by omega), g.mono (by omega)⟩
  sl := h.sl
  hl := ⟨hx.1, h0, hx.2.1.mono (by omega), hx.2.2.mono (by omega)⟩
  eqv := fun P hP => by
    rw [← h.eqv P hP]
    simp only [List.mem_cons, forall_eq_or_imp]
  fwd := fun P hP hl => let ⟨a, b⟩ := h.fwd P hP hl; ⟨a, b, hl x (h.sub x (List.mem_cons_self ..))⟩
/-- the first one is set -/
theorem LI.set (h : LI n i ls (x :: xs) none s) (hx : x.2.length = n ∧ bM 7 x ∧ bR 8 x) (h0 : x.1.1 ≠ 0) : LI n (i + 1) ls xs (some x) s where
  ub := by have := h.ub; rw [List.length_cons] at this; omega
  sub := fun y hy => h.sub y (List.mem_cons_of_mem _ hy)
  fl := fun o e => by
    have e := Option.some.inj e
    subst e
    exact ⟨hx.1, h0, hx.2.1 _ (.inl rfl), hx.2.1.mono (by omega), hx.2.2.mono (by omega)⟩
  sl := fun o e => let ⟨a, b, c, d, g⟩ := h.sl o e; ⟨a, b, c, d, g.mono (by omega)⟩
  eqv := fun P hP => by
    rw [← h.eqv P hP]
    simp only [List.mem_cons, forall_eq_or_imp, Option.some.injEq, forall_eq']
    constructor
    · rintro ⟨a, b, c⟩; exact ⟨(fun _ e => nomatch e), b, a, c⟩
    · rintro ⟨_, b, a, c⟩; exact ⟨a, b, c⟩
  fwd := fun P hP hl => ⟨fun o e => by
    have e := Option.some.inj e
    subst e
    exact hl x (h.sub x (List.mem_cons_self ..)), (h.fwd P hP hl).2⟩
/-- divided on at the first place -/
theorem LI.half1 {g g' x' : Own} (h : LI n i ls (x :: xs) (some g) s) (hx : x.2.length = n ∧ bM 7 x ∧ bR 8 x) (h0 : x.1.1 ≠ 0) (a1 : val false x' = 0) (a2 : val false g' ≠ 0) (a3 : g'.2.length = n) (a4 : x'.2.length = n) (a5 : (val false g').natAbs < 2 ^ 7)
    (a6 : bM (7 + 30 * i + 3 * 7 + 4) g') (a7 : bM (7 + 30 * i + 3 * 7 + 4) x') (a8 : bR (8 + 2000 * i + 3 * 7 + 4) g') (a9 : bR (8 + 2000 * i + 3 * 7 + 4) x') (e : ∀ P, Clo n P → (P g ∧ P x ↔ P g' ∧ P x')) : LH n i ls xs (some g') s x' where
  ub := by have := h.ub; rw [List.length_cons] at this; omega
  sub := fun y hy => h.sub y (List.mem_cons_of_mem _ hy)
  fl := fun o eo => by
    have eo := Option.some.inj eo
    subst eo
    exact ⟨a3, a2, a5, a6.mono (by omega), a8.mono (by omega)⟩
  sl := h.sl
  hl := ⟨a4, a1, a7.mono (by omega), a9.mono (by omega)⟩
  eqv := fun P hP => by
    have := e _ (clo_of_lat hP n)
    rw [← h.eqv P hP]
    simp only [List.mem_cons, forall_eq_or_imp, Option.some.injEq, forall_eq']
    constructor
    · rintro ⟨a, b, c, d⟩
      have q := this.mpr ⟨a, c⟩
      exact ⟨q.1, b, q.2, d⟩
    · rintro ⟨a, b, c, d⟩
      have q := this.mp ⟨a, c⟩
      exact ⟨q.1, b, q.2, d⟩
  fwd := fun P hP hl => by
    have q := (e P hP).mp ⟨(h.fwd P hP hl).1 g rfl, hl x (h.sub x (List.mem_cons_self ..))⟩
    exact ⟨fun o eo => by rw [← Option.some.inj eo]; exact q.1, (h.fwd P hP hl).2, q.2⟩
/-- nothing is left -/
theorem LH.done0 (h : LH n i ls xs f s here) (h0 : here.1.2 = 0) : LI n (i + 1) ls xs f s where
  ub := h.ub
  sub := h.sub
  fl := h.fl
  sl := fun o e => let ⟨a, b, c, d, g⟩ := h.sl o e; ⟨a, b, c, d, g.mono (by omega)⟩
  eqv := fun P hP => by
    rw [← h.eqv P hP]
    have hz : P here.1 := by
      have : here.1 = (0, 0) := Prod.ext h.hl.2.1 h0
      rw [this]; exact hP.zero
    exact ⟨fun ⟨a, b, c⟩ => ⟨a, b, hz, c⟩, fun ⟨a, b, _, c⟩ => ⟨a, b, c⟩⟩
  fwd := fun P hP hl => let ⟨a, b, _⟩ := h.fwd P hP hl; ⟨a, b⟩
theorem LH.set (h : LH n i ls xs f none here) (h0 : here.1.2 ≠ 0) (hi : i < 16) : LI n (i + 1) ls xs f (some here) where
  ub := h.ub
  sub := h.sub
  fl := h.fl
  sl := fun o e => by
    have e := Option.some.inj e
    subst e
    have := h.hl.2.2.1 _ (.inr rfl)
    exact ⟨h.hl.1, h.hl.2.1, h0, Nat.lt_of_lt_of_le this (pow_le (by omega)), h.hl.2.2.2.mono (by omega)⟩
  eqv := fun P hP => by
    rw [← h.eqv P hP]
    simp only [Option.some.injEq, forall_eq']
    constructor
    · rintro ⟨a, b, c⟩; exact ⟨a, (fun _ e => nomatch e), b, c⟩
    · rintro ⟨a, _, b, c⟩; exact ⟨a, b, c⟩
  fwd := fun P hP hl => ⟨(h.fwd P hP hl).1, fun o e => by rw [← Option.some.inj e]; exact (h.fwd P hP hl).2.2⟩
theorem LH.done1 {g g' x' : Own} (h : LH n i ls xs f (some g) here) (h0 : here.1.2 ≠ 0) (a1 : val true x' = 0) (a2 : val true g' ≠ 0) (a3 : g'.2.length = n) (a4 : x'.2.length = n) (a5 : (val true g').natAbs < 2 ^ 600)
    (a8 : bR (8 + 2000 * i + 25 + 3 * 600 + 4) g') (e : ∀ P, Clo n P → (P g ∧ P here ↔ P g' ∧ P x')) : LI n (i + 1) ls xs f (some g') where
  ub := h.ub
  sub := h.sub
  fl := h.fl
  sl := fun o eo => by
    have eo := Option.some.inj eo
    subst eo
    have q := (e (fun o => o.1.1 = 0) ⟨fun x y q _ _ a b => by
      have a : x.1.1 = 0 := a
      have b : y.1.1 = 0 := b
      show x.1.1 - q * y.1.1 = 0
      rw [a, b]; simp⟩).mp ⟨(h.sl g rfl).2.1, h.hl.2.1⟩
    exact ⟨a3, q.1, a2, a5, a8.mono (by omega)⟩
  eqv := fun P hP => by
    have := e _ (clo_of_lat hP n)
    rw [← h.eqv P hP]
    have q := (e (fun o => o.1.1 = 0) ⟨fun x y q _ _ a b => by
      have a : x.1.1 = 0 := a
      have b : y.1.1 = 0 := b
      show x.1.1 - q * y.1.1 = 0
      rw [a, b]; simp⟩).mp ⟨(h.sl g rfl).2.1, h.hl.2.1⟩
    have hz : P x'.1 := by
      have : x'.1 = (0, 0) := Prod.ext q.2 a1
      rw [this]; exact hP.zero
    simp only [Option.some.injEq, forall_eq']
    constructor
    · rintro ⟨a, b, c⟩
      have q := this.mpr ⟨b, hz⟩
      exact ⟨a, q.1, q.2, c⟩
    · rintro ⟨a, b, c, d⟩
      have q := this.mp ⟨b, c⟩
      exact ⟨a, q.1, d⟩
  fwd := fun P hP hl => by
    have q := h.fwd P hP hl
    have q2 := (e P hP).mp ⟨q.2.1 g rfl, q.2.2⟩
    exact ⟨q.1, fun o eo => by rw [← Option.some.inj eo]; exact q2.1⟩
/-- behind the loop; step by step to the end -/
structure LE (n : Nat) (ls : List Own) (f s : Option Own) : Prop where
  fl : ∀ o, f = some o → o.2.length = n ∧ o.1.1 ≠ 0 ∧ o.1.1.natAbs < 2 ^ 7 ∧ bM 700 o ∧ bR 40000 o
  sl : ∀ o, s = some o → o.2.length = n ∧ o.1.1 = 0 ∧ o.1.2 ≠ 0 ∧ o.1.2.natAbs < 2 ^ 600 ∧ bR 40000 o
  eqv : ∀ P, Lat P → ((∀ o, f = some o → P o.1) ∧ (∀ o, s = some o → P o.1) ↔ ∀ x ∈ ls, P x.1)
  fwd : ∀ P, Clo n P → (∀ x ∈ ls, P x) → (∀ o, f = some o → P o) ∧ (∀ o, s = some o → P o)
theorem LI.toLE (h : LI n i ls [] f s) (hl : ls.length ≤ 16) : LE n ls f s where
  fl := fun o e => by
    have hi : i ≤ 16 := by have := h.ub; simp at this; omega
    obtain ⟨a, b, c, d, g⟩ := h.fl o e
    exact ⟨a, b, c, d.mono (by omega), g.mono (by omega)⟩
  sl := fun o e => by
    have hi : i ≤ 16 := by have := h.ub; simp at this; omega
    obtain ⟨a, b, c, d, g⟩ := h.sl o e
    exact ⟨a, b, c, d, g.mono (by omega)⟩
  eqv := fun P hP => by
    rw [← h.eqv P hP]
    exact ⟨fun ⟨a, b⟩ => ⟨a, b, fun _ h => nomatch h⟩, fun ⟨a, b, _⟩ => ⟨a, b⟩⟩
  fwd := h.fwd
theorem lat_neg_iff {P : V2 → Prop} (h : Lat P) {x : Own} : P (negO x).1 ↔ P x.1 := by
  have hm : ∀ y : V2, P y → P (-1 * y.1, -1 * y.2) := fun y hy => h.mul (-1) hy
  constructor
  · intro k
    have := hm _ k
    have e : ((-1 * (negO x).1.1, -1 * (negO x).1.2) : V2) = x.1 := by apply Prod.ext <;> simp [negO]
    rw [e] at this; exact this
  · intro k; exact hm _ k
theorem clo_neg {P : Own → Prop} (h : Clo n P) {x : Own} (hx : x.2.length = n) (k : P x) : P (negO x) := by
  rw [negO_less]; exact h.sub x x 2 hx hx k k
theorem LE.negF {g : Own} (h : LE n ls (some g) s) : LE n ls (some (negO g)) s where
  fl := fun o e => by
    have e := Option.some.inj e
    subst e
    obtain ⟨a, b, c, d, q⟩ := h.fl g rfl
    exact ⟨negO_len a, by simp only [negO]; omega, by simp only [negO]; omega, neg_bM d, neg_bR q⟩
  sl := h.sl
  eqv := fun P hP => by
    rw [← h.eqv P hP]
    simp only [Option.some.injEq, forall_eq', lat_neg_iff hP]
  fwd := fun P hP hl => ⟨fun o e => by rw [← Option.some.inj e]; exact clo_neg hP (h.fl g rfl).1 ((h.fwd P hP hl).1 g rfl), (h.fwd P hP hl).2⟩
theorem LE.negS {g : Own} (h : LE n ls f (some g)) : LE n ls f (some (negO g)) where
  fl := h.fl
  sl := fun o e => by
    have e := Option.some.inj e
    subst e
    obtain ⟨a, b, c, d, q⟩ := h.sl g rfl
    exact ⟨negO_len a, by simp only [negO]; omega, by simp only [negO]; omega, by simp only [negO]; omega, neg_bR q⟩
  eqv := fun P hP => by
    rw [← h.eqv P hP]
    simp only [Option.some.injEq, forall_eq', lat_neg_iff hP]
  fwd := fun P hP hl => ⟨(h.fwd P hP hl).1, fun o e => by rw [← Option.some.inj e]; exact clo_neg hP (h.sl g rfl).1 ((h.fwd P hP hl).2 g rfl)⟩
/-- the end: brought down -/
structure LF (n : Nat) (ls : List Own) (f s : Option Own) : Prop where
  down : Down (f.map (·.1)) (s.map (·.1))
  fl : ∀ o, f = some o → o.2.length = n ∧ o.1.1.natAbs < 2 ^ 7 ∧ bM 700 o ∧ bR 50000 o
  sl : ∀ o, s = some o → o.2.length = n ∧ o.1.2.natAbs < 2 ^ 600 ∧ bM 700 o ∧ bR 50000 o
  eqv : ∀ P, Lat P → ((∀ o, f = some o → P o.1) ∧ (∀ o, s = some o → P o.1) ↔ ∀ x ∈ ls, P x.1)
  fwd : ∀ P, Clo n P → (∀ x ∈ ls, P x) → (∀ o, f = some o → P o) ∧ (∀ o, s = some o → P o)
theorem LE.sM {g : Own} (h : LE n ls f (some g)) : bM 700 g := fun e he => by
  obtain ⟨a, b, c, d, q⟩ := h.sl g rfl
  rcases he with he | he
  · rw [he, b]; exact Nat.pow_pos (by decide)
  · rw [he]; exact Nat.lt_of_lt_of_le d (pow_le (by decide))
theorem LE.one (h : LE n ls f s) (hf : ∀ o, f = some o → 0 < o.1.1) (hs : ∀ o, s = some o → 0 < o.1.2) (hn : f = none ∨ s = none) : LF n ls f s where
  down := by
    refine ⟨fun v e => ?_, fun v e => ?_, fun v w e1 e2 => ?_⟩
    · cases f with
      | none => cases e
      | some o => have e : o.1 = v := Option.some.inj e; rw [← e]; exact hf o rfl
    · cases s with
      | none => cases e
      | some o => have e : o.1 = v := Option.some.inj e; rw [← e]; exact ⟨(h.sl o rfl).2.1, hs o rfl⟩
    · rcases hn with hn | hn <;> subst hn
      · cases e1
      · cases e2
  fl := fun o e => let ⟨a, b, c, d, q⟩ := h.fl o e; ⟨a, c, d, q.mono (by decide)⟩
  sl := fun o e => by
    subst e
    exact let ⟨a, b, c, d, q⟩ := h.sl o rfl; ⟨a, d, h.sM, q.mono (by decide)⟩
  eqv := h.eqv
  fwd := h.fwd
theorem LE.two {a d : Own} (h : LE n ls (some a) (some d)) (hf : 0 < a.1.1) (hs : 0 < d.1.2) : LF n ls (some (lessO a d (a.1.2.fdiv d.1.2))) (some d) where
  down := by
    refine ⟨fun v e => ?_, fun v e => ?_, fun v w e1 e2 => ?_⟩
    · have e := Option.some.inj e
      rw [← e]
      show 0 < a.1.1 - _ * d.1.1
      rw [(h.sl d rfl).2.1]; simpa using hf
    · have e := Option.some.inj e
      rw [← e]; exact ⟨(h.sl d rfl).2.1, hs⟩
    · have e1 := Option.some.inj e1
      have e2 := Option.some.inj e2
      rw [← e1, ← e2]
      exact fdiv_rest hs
  fl := fun o e => by
    have e := Option.some.inj e
    subst e
    obtain ⟨a1, a2, a3, a4, a5⟩ := h.fl a rfl
    obtain ⟨d1, d2, d3, d4, d5⟩ := h.sl d rfl
    have e1 : (lessO a d (a.1.2.fdiv d.1.2)).1.1 = a.1.1 := by
      show a.1.1 - _ * d.1.1 = _
      rw [d2]; simp
    have e2 := fdiv_rest (x := a.1.2) hs
    have hq : (a.1.2.fdiv d.1.2).natAbs < 2 ^ 702 := by
      have q := (eu_any (x := a.1.2) d3).2.2
      have q2 := Nat.le_mul_of_pos_right (a.1.2.fdiv d.1.2).natAbs (show 0 < d.1.2.natAbs by omega)
      have q3 := a4 _ (.inr rfl)
      have q4 : (2 : Nat) ^ 600 ≤ 2 ^ 700 := pow_le (by decide)
      have q5 : (2 : Nat) ^ 702 = 4 * 2 ^ 700 := by rw [show (702 : Nat) = 700 + 2 from rfl, Nat.pow_add]; omega
      rw [q5]
      omega
    refine ⟨lessO_len a1 d1, by rw [e1]; exact a3, fun e he => ?_, (less_bR a5 d5 hq).mono (by decide)⟩
    rcases he with he | he
    · rw [he, e1]; exact a4 _ (.inl rfl)
    · rw [he]
      have e3 : (lessO a d (a.1.2.fdiv d.1.2)).1.2 = a.1.2 - a.1.2.fdiv d.1.2 * d.1.2 := rfl
      rw [e3]
      have q4 : (2 : Nat) ^ 600 ≤ 2 ^ 700 := pow_le (by decide)
      omega
  sl := fun o e => by
    have e := Option.some.inj e
    subst e
    exact let ⟨a, b, c, d, q⟩ := h.sl d rfl; ⟨a, d, h.sM, q.mono (by decide)⟩
  eqv := fun P hP => by
    rw [← h.eqv P hP]
    simp only [Option.some.injEq, forall_eq']
    have e : ∀ v w : V2, ∀ q, P w → (P (v.1 - q * w.1, v.2 - q * w.2) ↔ P v) := fun v w q hw => by
      constructor
      · intro k
        have := hP.sub _ w (-q) k hw
        have e : ((v.1 - q * w.1 - -q * w.1, v.2 - q * w.2 - -q * w.2) : V2) = v := by apply Prod.ext <;> simp [Int.neg_mul]
        rw [e] at this; exact this
      · intro k; exact hP.sub v w q k hw
    constructor
    · rintro ⟨p, q⟩; exact ⟨(e a.1 d.1 _ q).mp p, q⟩
    · rintro ⟨p, q⟩; exact ⟨(e a.1 d.1 _ q).mpr p, q⟩
  fwd := fun P hP hl => by
    have q := h.fwd P hP hl
    exact ⟨fun o e => by rw [← Option.some.inj e]; exact hP.sub a d _ (h.fl a rfl).1 (h.sl d rfl).1 (q.1 a rfl) (q.2 d rfl), q.2⟩
end
end LT
set_option linter.all false
/-! rooms known and how: no program here -/
namespace LT
abbrev Kn := List (Int × Own)
def lkp (kn : Kn) (i : Int) : Option Own := (kn.find? fun p => decide (p.1 = i)).map (·.2)
def kys (kn : Kn) : List Int := kn.map (·.1)
def unitL (many : Nat) (i : Int) : List Int := (List.range many).map fun (j : Nat) => if (j : Int) = i then 1 else 0
def zeroO (many : Nat) : Own := ((0, 0), List.replicate many 0)
theorem unitL_len {many : Nat} {i : Int} : (unitL many i).length = many := by simp [unitL]
theorem lkp_some {kn : Kn} {i : Int} {o : Own} (h : lkp kn i = some o) : (i, o) ∈ kn := by
  unfold lkp at h
  obtain ⟨p, h1, h2⟩ := Option.map_eq_some_iff.mp h
  have e := List.find?_some h1
  have e : p.1 = i := of_decide_eq_true e
  have m := List.mem_of_find?_eq_some h1
  have : p = (i, o) := Prod.ext e h2
  rw [this] at m; exact m
theorem lkp_isSome {kn : Kn} {i : Int} : (lkp kn i).isSome ↔ i ∈ kys kn := by
  unfold lkp kys
  rw [Option.isSome_map, List.find?_isSome]
  simp only [decide_eq_true_eq, List.mem_map]
theorem lkp_none {kn : Kn} {i : Int} (h : i ∉ kys kn) : lkp kn i = none := by
  cases e : lkp kn i with
  | none => rfl
  | some o => exact absurd (lkp_isSome.mp (by rw [e]; rfl)) h
theorem lkp_mem {kn : Kn} {i : Int} {o : Own} (hn : (kys kn).Nodup) (h : (i, o) ∈ kn) : lkp kn i = some o := by
  induction kn with
  | nil => cases h
  | cons p kn ih =>
    unfold kys at hn
    rw [List.map_cons, List.nodup_cons] at hn
    rcases List.mem_cons.mp h with h | h
    · subst h
      simp [lkp]
    · have hne : p.1 ≠ i := fun e => hn.1 (by rw [e]; exact List.mem_map.mpr ⟨_, h, rfl⟩)
      have := ih hn.2 h
      unfold lkp at this ⊢
      rw [List.find?_cons]
      simp only [hne, decide_false]
      exact this
/-- no more than n of n -/
theorem nodup_le : ∀ (n : Nat) (l : List Int), l.Nodup → (∀ x ∈ l, 0 ≤ x ∧ x < n) → l.length ≤ n
  | 0, l, _, h => by
    cases l with
    | nil => simp
    | cons x l => have := h x (List.mem_cons_self ..); omega
  | n + 1, l, hn, h => by
    have := nodup_le n (l.filter fun x => decide (x ≠ (n : Int))) (hn.filter _) fun x hx => by
      rw [List.mem_filter] at hx
      have h1 := h x hx.1
      have h2 : x ≠ (n : Int) := of_decide_eq_true hx.2
      omega
    have h3 : l.length ≤ (l.filter fun x => decide (x ≠ (n : Int))).length + 1 := by
      clear this h
      induction l with
      | nil => simp
      | cons y l ih =>
        rw [List.nodup_cons] at hn
        by_cases hy : y = (n : Int)
        · have : l.filter (fun x => decide (x ≠ (n : Int))) = l := List.filter_eq_self.mpr fun x hx => decide_eq_true fun e => hn.1 (by rw [hy, ← e]; exact hx)
          rw [List.filter_cons, if_neg (by simp [hy]), this]
          simp
        · rw [List.filter_cons, if_pos (by simp [hy]), List.length_cons, List.length_cons]
          have := ih hn.2
          omega
    omega
/-- a HOUSE within the bounds of which the law draws -/
structure Ho (n : Nat) (st : List Stp) : Prop where
  n1 : 1 ≤ n
  n6 : n ≤ 6
  s16 : st.length ≤ 16
  rm : ∀ s ∈ st, 0 ≤ s.1 ∧ s.1 < n ∧ 0 ≤ s.2.2 ∧ s.2.2 < n
  mv : ∀ s ∈ st, s.2.1.1.natAbs ≤ 9 ∧ s.2.1.2.natAbs ≤ 9
/-- a family of kinds of pairs, one for each room, that steps keep -/
structure Fam (st : List Stp) (r : Int) (Q : Int → Own → Prop) : Prop where
  zero : Q r (zeroO st.length)
  fwd : ∀ (i : Nat) s o, st[i]? = some s → o.2.length = st.length → Q s.1 o → Q s.2.2 (lessO o (negO (s.2.1, unitL st.length i)) 1)
  bwd : ∀ (i : Nat) s o, st[i]? = some s → o.2.length = st.length → Q s.2.2 o → Q s.1 (lessO o (s.2.1, unitL st.length i) 1)
def small (i : Nat) (o : Own) : Prop := (∀ e, mE o e → e.natAbs ≤ 9 * i) ∧ (∀ e, rE o e → e.natAbs ≤ i)
structure KN (n : Nat) (st : List Stp) (r : Int) (kn : Kn) : Prop where
  nodup : (kys kn).Nodup
  rng : ∀ x ∈ kys kn, 0 ≤ x ∧ x < n
  zero : kn[0]? = some (r, zeroO st.length)
  len : ∀ p ∈ kn, p.2.2.length = st.length
  bd : ∀ (i : Nat) p, kn[i]? = some p → small i p.2
  fam : ∀ Q, Fam st r Q → ∀ p ∈ kn, Q p.1 p.2
section
variable {n : Nat} {st : List Stp} {r : Int} {kn : Kn}
theorem KN.le (h : KN n st r kn) : kn.length ≤ n := by
  have := nodup_le n (kys kn) h.nodup h.rng
  unfold kys at this
  rwa [List.length_map] at this
theorem zero_small {many i : Nat} : small i (zeroO many) := by
  refine ⟨fun e he => ?_, fun e he => ?_⟩
  · rcases he with he | he <;> (rw [he]; simp [zeroO])
  · have he : e ∈ List.replicate many (0 : Int) := he
    rw [(List.mem_replicate.mp he).2]; simp
theorem KN.start (hr : 0 ≤ r) (hr2 : r < n) : KN n st r [(r, zeroO st.length)] where
  nodup := by simp [kys]
  rng := by simp [kys, hr, hr2]
  zero := rfl
  len := by simp [zeroO]
  bd := fun i p e => by
    cases i with
    | zero => have e := Option.some.inj e; subst e; exact zero_small
    | succ i => simp at e
  fam := fun Q hQ p hp => by
    rw [List.mem_singleton.mp hp]; exact hQ.zero
theorem unit_small {many : Nat} {i e : Int} (h : e ∈ unitL many i) : e.natAbs ≤ 1 := by
  obtain ⟨j, _, rfl⟩ := List.mem_map.mp h
  split <;> decide
theorem small_less {i : Nat} {o u : Own} (h : small i o) (hm : ∀ e, mE u e → e.natAbs ≤ 9) (hr : ∀ e, rE u e → e.natAbs ≤ 1) : small (i + 1) (lessO o u 1) := by
  refine ⟨fun e he => ?_, fun e he => ?_⟩
  · obtain ⟨a, b, ha, hb, rfl⟩ := mE_less he
    have := h.1 a ha; have := hm b hb
    omega
  · obtain ⟨a, b, ha, hb, rfl⟩ := rE_less he
    have := h.2 a ha; have := hr b hb
    omega
theorem neg_m9 {u : Own} (hm : ∀ e, mE u e → e.natAbs ≤ 9) : ∀ e, mE (negO u) e → e.natAbs ≤ 9 := fun e he => by
  rcases he with he | he
  · have := hm _ (.inl rfl); rw [he]; simp only [negO]; omega
  · have := hm _ (.inr rfl); rw [he]; simp only [negO]; omega
theorem neg_r1 {u : Own} (hm : ∀ e, rE u e → e.natAbs ≤ 1) : ∀ e, rE (negO u) e → e.natAbs ≤ 1 := fun e he => by
  obtain ⟨a, ha, rfl⟩ := List.mem_map.mp he
  have := hm a ha
  omega
theorem small_mono {i j : Nat} {o : Own} (h : small i o) (k : i ≤ j) : small j o := ⟨fun e he => Nat.le_trans (h.1 e he) (by omega), fun e he => Nat.le_trans (h.2 e he) k⟩
/-- one more room -/
theorem KN.add (h : KN n st r kn) {b : Int} {o : Own} (hb : b ∉ kys kn) (h0 : 0 ≤ b) (hn : b < n) (hl : o.2.length = st.length) (hs : small kn.length o) (hf : ∀ Q, Fam st r Q → Q b o) : KN n st r (kn ++ [(b, o)]) where
  nodup := by
    unfold kys
    rw [List.map_append, List.nodup_append]
    refine ⟨h.nodup, by simp, fun a ha c hc => ?_⟩
    have hc : c = b := by simpa using hc
    rw [hc]
    rintro rfl
    exact hb ha
  rng := fun x hx => by
    unfold kys at hx
    rw [List.map_append] at hx
    rcases List.mem_append.mp hx with hx | hx
    · exact h.rng x hx
    · have : x = b := by simpa using hx
      rw [this]; exact ⟨h0, hn⟩
  zero := by
    have hz := h.zero
    have : 0 < kn.length := (List.getElem?_eq_some_iff.mp hz).1
    rw [List.getElem?_append_left this]; exact hz
  len := fun p hp => by
    rcases List.mem_append.mp hp with hp | hp
    · exact h.len p hp
    · rw [List.mem_singleton.mp hp]; exact hl
  bd := fun i p e => by
    rcases Nat.lt_or_ge i kn.length with hi | hi
    · rw [List.getElem?_append_left hi] at e; exact h.bd i p e
    · rw [List.getElem?_append_right hi] at e
      have : i - kn.length = 0 := by
        have := (List.getElem?_eq_some_iff.mp e).1
        simp at this; omega
      rw [this] at e
      have e := Option.some.inj e
      rw [← e]
      exact small_mono hs hi
  fam := fun Q hQ p hp => by
    rcases List.mem_append.mp hp with hp | hp
    · exact h.fam Q hQ p hp
    · rw [List.mem_singleton.mp hp]; exact hf Q hQ
theorem KN.fwd (h : KN n st r kn) (H : Ho n st) {i : Nat} {s : Stp} {o : Own} (hs : st[i]? = some s) (ho : lkp kn s.1 = some o) (hb : s.2.2 ∉ kys kn) : KN n st r (kn ++ [(s.2.2, lessO o (negO (s.2.1, unitL st.length i)) 1)]) := by
  have hm := lkp_some ho
  have hst := List.mem_of_getElem? hs
  have hl := h.len _ hm
  obtain ⟨j, hj⟩ := List.mem_iff_getElem?.mp hm
  have hj2 := (List.getElem?_eq_some_iff.mp hj).1
  refine h.add hb (H.rm s hst).2.2.1 (H.rm s hst).2.2.2 (lessO_len hl (negO_len unitL_len)) (small_mono (small_less (h.bd j _ hj) (neg_m9 fun e he => ?_) (neg_r1 fun e he => unit_small (many := st.length) (i := (i : Nat)) he)) hj2) fun Q hQ => hQ.fwd i s o hs hl (h.fam Q hQ _ hm)
  rcases he with he | he
  · rw [he]; exact (H.mv s hst).1
  · rw [he]; exact (H.mv s hst).2
theorem KN.bwd (h : KN n st r kn) (H : Ho n st) {i : Nat} {s : Stp} {o : Own} (hs : st[i]? = some s) (ho : lkp kn s.2.2 = some o) (hb : s.1 ∉ kys kn) : KN n st r (kn ++ [(s.1, lessO o (s.2.1, unitL st.length i) 1)]) := by
  have hm := lkp_some ho
  have hst := List.mem_of_getElem? hs
  have hl := h.len _ hm
  obtain ⟨j, hj⟩ := List.mem_iff_getElem?.mp hm
  have hj2 := (List.getElem?_eq_some_iff.mp hj).1
  refine h.add hb (H.rm s hst).1 (H.rm s hst).2.1 (lessO_len hl unitL_len) (small_mono (small_less (h.bd j _ hj) (fun e he => ?_) (fun e he => unit_small (many := st.length) (i := (i : Nat)) he)) hj2) fun Q hQ => hQ.bwd i s o hs hl (h.fam Q hQ _ hm)
  rcases he with he | he
  · rw [he]; exact (H.mv s hst).1
  · rw [he]; exact (H.mv s hst).2
/-- the steps at a room are gone -/
def DoneS (kn : Kn) (x : Int) (s : Stp) : Prop := (s.1 = x → s.2.2 ∈ kys kn) ∧ (s.2.2 = x → s.1 ∈ kys kn)
theorem DoneS.mono {x : Int} {s : Stp} {t : Kn} (h : DoneS kn x s) : DoneS (kn ++ t) x s := by
  unfold DoneS kys at *
  rw [List.map_append]
  exact ⟨fun e => List.mem_append_left _ (h.1 e), fun e => List.mem_append_left _ (h.2 e)⟩
theorem fam_path : Fam st r fun k o => Path st r k o.1 where
  zero := Path.refl
  fwd := fun i s o hs _ h => (h.fwd (List.mem_of_getElem? (show st[i]? = some (s.1, s.2.1, s.2.2) from hs))).cast (by simp [lessO, negO])
  bwd := fun i s o hs _ h => (h.bwd (List.mem_of_getElem? (show st[i]? = some (s.1, s.2.1, s.2.2) from hs))).cast (by simp [lessO])
def gOf (kn : Kn) (i : Int) : Option V2 := (lkp kn i).map (·.1)
theorem KN.gaps (h : KN n st r kn) (hd : ∀ x ∈ kys kn, ∀ s ∈ st, DoneS kn x s) : Gaps st r (gOf kn) where
  at0 := by
    unfold gOf
    rw [lkp_mem h.nodup (List.mem_of_getElem? h.zero)]; rfl
  sound := fun k v e => by
    obtain ⟨o, ho, rfl⟩ := Option.map_eq_some_iff.mp e
    exact h.fam _ fam_path _ (lkp_some ho)
  shut := fun a m b hs => by
    unfold gOf
    rw [Option.isSome_map, Option.isSome_map, lkp_isSome, lkp_isSome]
    exact ⟨fun ha => (hd a ha _ hs).1 rfl, fun hb => (hd b hb _ hs).2 rfl⟩
def lpF (kn : Kn) (many : Nat) (p : Stp × Nat) : Option Own := match lkp kn p.1.1, lkp kn p.1.2.2 with
  | some x, some y => some (lessO (lessO x (negO (p.1.2.1, unitL many p.2)) 1) y 1)
  | _, _ => none
def lpO (kn : Kn) (st : List Stp) : List Own := st.zipIdx.filterMap (lpF kn st.length)
theorem fm_congr {α β : Type} {l : List α} {f g : α → Option β} (h : ∀ x, f x = g x) : l.filterMap f = l.filterMap g := by rw [funext h]
theorem lpO_moves : (lpO kn st).map (·.1) = loopsOf st (gOf kn) := by
  unfold lpO loopsOf
  rw [List.map_filterMap]
  have e : st = st.zipIdx.map (·.1) := by simp
  conv => rhs; rw [e]
  rw [List.filterMap_map]
  refine fm_congr fun p => ?_
  simp only [lpF, gOf, Function.comp]
  cases lkp kn p.1.1 with
  | none => rfl
  | some x =>
    cases lkp kn p.1.2.2 with
    | none => rfl
    | some y =>
      simp [lessO, negO]
theorem KN.loop (h : KN n st r kn) (H : Ho n st) {x : Own} (hx : x ∈ lpO kn st) : x.2.length = st.length ∧ bM 7 x ∧ bR 8 x := by
  obtain ⟨p, hp, e⟩ := List.mem_filterMap.mp hx
  unfold lpF at e
  split at e
  · rename_i u v hu hv
    have e := Option.some.inj e
    subst e
    have mu := lkp_some hu
    have mv := lkp_some hv
    have hst : p.1 ∈ st := by
      have := List.mem_zipIdx hp
      rw [this.2.2]; exact List.getElem_mem _
    obtain ⟨i, hi⟩ := List.mem_iff_getElem?.mp mu
    obtain ⟨j, hj⟩ := List.mem_iff_getElem?.mp mv
    have hle := h.le
    have h6 := H.n6
    have hi2 := (List.getElem?_eq_some_iff.mp hi).1
    have hj2 := (List.getElem?_eq_some_iff.mp hj).1
    have su := small_mono (h.bd i _ hi) (show i ≤ 5 by omega)
    have sv := small_mono (h.bd j _ hj) (show j ≤ 5 by omega)
    refine ⟨lessO_len (lessO_len (h.len _ mu) (negO_len unitL_len)) (h.len _ mv), fun e he => ?_, fun e he => ?_⟩
    · obtain ⟨a, b, ha, hb, rfl⟩ := mE_less he
      obtain ⟨a', c, ha', hc, rfl⟩ := mE_less ha
      have h1 := su.1 a' ha'
      have h2 := sv.1 b hb
      have h3 := neg_m9 (u := (p.1.2.1, unitL st.length p.2)) (fun e he => by
        rcases he with he | he
        · rw [he]; exact (H.mv _ hst).1
        · rw [he]; exact (H.mv _ hst).2) c hc
      omega
    · obtain ⟨a, b, ha, hb, rfl⟩ := rE_less he
      obtain ⟨a', c, ha', hc, rfl⟩ := rE_less ha
      have h1 := su.2 a' ha'
      have h2 := sv.2 b hb
      have h3 := neg_r1 (u := (p.1.2.1, unitL st.length p.2)) (fun e he => unit_small (many := st.length) (i := (p.2 : Nat)) he) c hc
      omega
  · cases e
/-- what told_in tells -/
structure Told (n : Nat) (st : List Stp) (r : Int) (kn : Kn) (f s : Option Own) : Prop where
  knw : KN n st r kn
  gaps : Gaps st r (gOf kn)
  lf : LF st.length (lpO kn st) f s
def mvs (f s : Option Own) : List V2 := (f.toList ++ s.toList).map (·.1)
theorem mvs_gens {f s : Option Own} : mvs f s = gens (f.map (·.1)) (s.map (·.1)) := by cases f <;> cases s <;> rfl
theorem Told.span {f s : Option Own} (T : Told n st r kn f s) {v : V2} : mem2 (f.map (·.1)) (s.map (·.1)) v ↔ Path st r r v := by
  rw [← span_mem2, ← T.gaps.span, ← lpO_moves]
  have key : ∀ P, Lat P → ((∀ w ∈ gens (f.map (·.1)) (s.map (·.1)), P w) ↔ ∀ w ∈ (lpO kn st).map (·.1), P w) := fun P hP => by
    have := T.lf.eqv P hP
    constructor
    · intro k w hw
      obtain ⟨x, hx, rfl⟩ := List.mem_map.mp hw
      exact this.mp ⟨fun o e => k _ (by subst e; simp [gens]), fun o e => k _ (by subst e; simp [gens])⟩ x hx
    · intro k w hw
      have q := this.mpr fun x hx => k _ (List.mem_map.mpr ⟨x, hx, rfl⟩)
      rw [← mvs_gens] at hw
      obtain ⟨o, ho, rfl⟩ := List.mem_map.mp hw
      rcases List.mem_append.mp ho with ho | ho
      · exact q.1 o (by cases f <;> simp_all)
      · exact q.2 o (by cases s <;> simp_all)
  exact ⟨fun h P hP hg => h P hP ((key P hP).mpr hg), fun h P hP hg => h P hP ((key P hP).mp hg)⟩
end
end LT
set_option linter.all false
/-! the law's own gaps, minors: no program here -/
namespace LT
abbrev Gl := List (Int × V2)
def lkv (gl : Gl) (i : Int) : Option V2 := (gl.find? fun p => decide (p.1 = i)).map (·.2)
def kyv (gl : Gl) : List Int := gl.map (·.1)
theorem lkv_some {gl : Gl} {i : Int} {o : V2} (h : lkv gl i = some o) : (i, o) ∈ gl := by
  unfold lkv at h
  obtain ⟨p, h1, h2⟩ := Option.map_eq_some_iff.mp h
  have e := List.find?_some h1
  have e : p.1 = i := of_decide_eq_true e
  have m := List.mem_of_find?_eq_some h1
  have : p = (i, o) := Prod.ext e h2
  rw [this] at m; exact m
theorem lkv_isSome {gl : Gl} {i : Int} : (lkv gl i).isSome ↔ i ∈ kyv gl := by
  unfold lkv kyv
  rw [Option.isSome_map, List.find?_isSome]
  simp only [decide_eq_true_eq, List.mem_map]
theorem lkv_mem {gl : Gl} {i : Int} {o : V2} (hn : (kyv gl).Nodup) (h : (i, o) ∈ gl) : lkv gl i = some o := by
  induction gl with
  | nil => cases h
  | cons p gl ih =>
    unfold kyv at hn
    rw [List.map_cons, List.nodup_cons] at hn
    rcases List.mem_cons.mp h with h | h
    · subst h
      simp [lkv]
    · have hne : p.1 ≠ i := fun e => hn.1 (by rw [e]; exact List.mem_map.mpr ⟨_, h, rfl⟩)
      have := ih hn.2 h
      unfold lkv at this ⊢
      rw [List.find?_cons]
      simp only [hne, decide_false]
      exact this
structure GN (n : Nat) (st : List Stp) (r : Int) (gl : Gl) : Prop where
  nodup : (kyv gl).Nodup
  rng : ∀ x ∈ kyv gl, 0 ≤ x ∧ x < n
  zero : (r, (0, 0)) ∈ gl
  sound : ∀ p ∈ gl, Path st r p.1 p.2
  bd : ∀ (i : Nat) p, gl[i]? = some p → p.2.1.natAbs ≤ 9 * i ∧ p.2.2.natAbs ≤ 9 * i
def shutG (gl : Gl) (s : Stp) : Prop := s.1 ∈ kyv gl ↔ s.2.2 ∈ kyv gl
section
variable {n : Nat} {st : List Stp} {r : Int} {gl : Gl}
theorem GN.le (h : GN n st r gl) : gl.length ≤ n := by
  have := nodup_le n (kyv gl) h.nodup h.rng
  unfold kyv at this
  rwa [List.length_map] at this
theorem GN.start (h0 : 0 ≤ r) (h1 : r < n) : GN n st r [(r, (0, 0))] where
  nodup := by simp [kyv]
  rng := by simp [kyv, h0, h1]
  zero := by simp
  sound := fun p hp => by rw [List.mem_singleton.mp hp]; exact Path.refl
  bd := fun i p e => by
    cases i with
    | zero => have e := Option.some.inj e; subst e; simp
    | succ i => simp at e
theorem GN.add (h : GN n st r gl) {b : Int} {v : V2} (hb : b ∉ kyv gl) (h0 : 0 ≤ b) (h1 : b < n) (hp : Path st r b v) (hs : v.1.natAbs ≤ 9 * gl.length ∧ v.2.natAbs ≤ 9 * gl.length) : GN n st r (gl ++ [(b, v)]) where
  nodup := by
    unfold kyv
    rw [List.map_append, List.nodup_append]
    refine ⟨h.nodup, by simp, fun a ha c hc => ?_⟩
    have hc : c = b := by simpa using hc
    rw [hc]
    rintro rfl
    exact hb ha
  rng := fun x hx => by
    unfold kyv at hx
    rw [List.map_append] at hx
    rcases List.mem_append.mp hx with hx | hx
    · exact h.rng x hx
    · have : x = b := by simpa using hx
      rw [this]; exact ⟨h0, h1⟩
  zero := List.mem_append_left _ h.zero
  sound := fun p hp' => by
    rcases List.mem_append.mp hp' with hp' | hp'
    · exact h.sound p hp'
    · rw [List.mem_singleton.mp hp']; exact hp
  bd := fun i p e => by
    rcases Nat.lt_or_ge i gl.length with hi | hi
    · rw [List.getElem?_append_left hi] at e; exact h.bd i p e
    · rw [List.getElem?_append_right hi] at e
      have : i - gl.length = 0 := by
        have := (List.getElem?_eq_some_iff.mp e).1
        simp at this; omega
      rw [this] at e
      have e := Option.some.inj e
      rw [← e]
      exact ⟨Nat.le_trans hs.1 (by omega), Nat.le_trans hs.2 (by omega)⟩
theorem GN.small (h : GN n st r gl) (h6 : n ≤ 6) {i : Int} {v : V2} (hv : lkv gl i = some v) : v.1.natAbs ≤ 45 ∧ v.2.natAbs ≤ 45 := by
  obtain ⟨j, hj⟩ := List.mem_iff_getElem?.mp (lkv_some hv)
  have hj2 := (List.getElem?_eq_some_iff.mp hj).1
  have := h.bd j _ hj
  have := h.le
  simp only at *
  omega
theorem GN.fwd (h : GN n st r gl) (H : Ho n st) {s : Stp} (hs : s ∈ st) {v : V2} (hv : lkv gl s.1 = some v) (hb : s.2.2 ∉ kyv gl) : GN n st r (gl ++ [(s.2.2, (v.1 + s.2.1.1, v.2 + s.2.1.2))]) := by
  have hm := lkv_some hv
  obtain ⟨j, hj⟩ := List.mem_iff_getElem?.mp hm
  have hj2 := (List.getElem?_eq_some_iff.mp hj).1
  have hb' := h.bd j _ hj
  have hmv := H.mv s hs
  simp only at hb'
  exact h.add hb (H.rm s hs).2.2.1 (H.rm s hs).2.2.2 ((h.sound _ hm).fwd (m := s.2.1) hs) ⟨by simp only; omega, by simp only; omega⟩
theorem GN.bwd (h : GN n st r gl) (H : Ho n st) {s : Stp} (hs : s ∈ st) {v : V2} (hv : lkv gl s.2.2 = some v) (hb : s.1 ∉ kyv gl) : GN n st r (gl ++ [(s.1, (v.1 + -s.2.1.1, v.2 + -s.2.1.2))]) := by
  have hm := lkv_some hv
  obtain ⟨j, hj⟩ := List.mem_iff_getElem?.mp hm
  have hj2 := (List.getElem?_eq_some_iff.mp hj).1
  have hb' := h.bd j _ hj
  have hmv := H.mv s hs
  simp only at hb'
  exact h.add hb (H.rm s hs).1 (H.rm s hs).2.1 (((h.sound _ hm).bwd (m := s.2.1) hs).cast (by simp only [Prod.mk.injEq]; omega)) ⟨by simp only; omega, by simp only; omega⟩
theorem GN.gaps (h : GN n st r gl) (hd : ∀ s ∈ st, shutG gl s) : Gaps st r (lkv gl) where
  at0 := lkv_mem h.nodup h.zero
  sound := fun k v e => h.sound _ (lkv_some e)
  shut := fun a m b hs => by rw [lkv_isSome, lkv_isSome]; exact hd _ hs
end
/-! ### minors -/
structure Min (vs : List V2) (a b : Int) : Prop where
  a0 : 0 ≤ a
  b0 : 0 ≤ b
  an : ∀ c : Int, c ∣ a ↔ ∀ v ∈ vs, c ∣ v.1 ∧ c ∣ v.2
  ar : ∀ c : Int, c ∣ b ↔ ∀ v ∈ vs, ∀ w ∈ vs, c ∣ det v w
theorem dvd_both {a b : Int} (ha : 0 ≤ a) (hb : 0 ≤ b) (h : a ∣ b) (k : b ∣ a) : a = b := by
  rcases Int.lt_or_eq_of_le ha with ha | ha
  · rcases Int.lt_or_eq_of_le hb with hb | hb
    · exact dvd_antisymm ha hb h k
    · rw [← hb] at k ⊢
      exact Int.zero_dvd.mp k
  · rw [← ha] at h ⊢
    exact (Int.zero_dvd.mp h).symm
/-- a member more leaves the divisors as they are -/
theorem Min.same {vs : List V2} {v : V2} {a b a' b' : Int} (h : Min vs a b) (h' : Min (vs ++ [v]) a' b') (hv : Span vs v) : a = a' ∧ b = b' := by
  constructor
  · refine dvd_both h.a0 h'.a0 ?_ ?_
    · rw [h'.an]
      have q := (h.an a).mp (Int.dvd_refl a)
      intro w hw
      rcases List.mem_append.mp hw with hw | hw
      · exact q w hw
      · rw [List.mem_singleton.mp hw]; exact span_dvd q hv
    · rw [h.an]
      have q := (h'.an a').mp (Int.dvd_refl a')
      exact fun w hw => q w (List.mem_append_left _ hw)
  · refine dvd_both h.b0 h'.b0 ?_ ?_
    · rw [h'.ar]
      have q := (h.ar b).mp (Int.dvd_refl b)
      have qv := span_det q hv
      have qv' : ∀ w ∈ vs, b ∣ det w v := fun w hw => by rw [det_anti]; exact Int.dvd_neg.mpr (qv w hw)
      have qvv : b ∣ det v v := by rw [det_self]; exact Int.dvd_zero b
      intro x hx y hy
      rcases List.mem_append.mp hx with hx | hx
      · rcases List.mem_append.mp hy with hy | hy
        · exact q x hx y hy
        · rw [List.mem_singleton.mp hy]; exact qv' x hx
      · rw [List.mem_singleton.mp hx]
        rcases List.mem_append.mp hy with hy | hy
        · exact qv y hy
        · rw [List.mem_singleton.mp hy]; exact qvv
    · rw [h.ar]
      have q := (h'.ar b').mp (Int.dvd_refl b')
      exact fun x hx y hy => q x (List.mem_append_left _ hx) y (List.mem_append_left _ hy)
theorem dvd_gcd_iff {c : Int} {a b : Int} : c ∣ ((Int.gcd a b : Nat) : Int) ↔ c ∣ a ∧ c ∣ b :=
  ⟨fun h => ⟨Int.dvd_trans h (Int.gcd_dvd_left ..), Int.dvd_trans h (Int.gcd_dvd_right ..)⟩, fun h => Int.dvd_coe_gcd h.1 h.2⟩
end LT
namespace LT
/-- all areas of two are multiples -/
def ARl (c : Int) : List V2 → Prop
  | [] => True
  | v :: l => (∀ w ∈ l, c ∣ det v w) ∧ ARl c l
theorem ARl_iff {c : Int} : ∀ {vs : List V2}, ARl c vs ↔ ∀ v ∈ vs, ∀ w ∈ vs, c ∣ det v w
  | [] => by simp [ARl]
  | u :: l => by
    have ih := ARl_iff (c := c) (vs := l)
    constructor
    · rintro ⟨h1, h2⟩ v hv w hw
      have h2 := ih.mp h2
      rcases List.mem_cons.mp hv with hv | hv
      · rcases List.mem_cons.mp hw with hw | hw
        · rw [hv, hw, det_self]; exact Int.dvd_zero c
        · rw [hv]; exact h1 w hw
      · rcases List.mem_cons.mp hw with hw | hw
        · rw [hw, det_anti]; exact Int.dvd_neg.mpr (h1 v hv)
        · exact h2 v hv w hw
    · intro h
      exact ⟨fun w hw => h u (List.mem_cons_self ..) w (List.mem_cons_of_mem _ hw), ih.mpr fun v hv w hw => h v (List.mem_cons_of_mem _ hv) w (List.mem_cons_of_mem _ hw)⟩
theorem gcd_lt {a b : Int} {B : Nat} (ha : a.natAbs < B) (hb : b.natAbs < B) : Int.gcd a b < B := by
  by_cases h : b = 0
  · subst h
    have : Int.gcd a 0 = a.natAbs := Int.gcd_zero_right a
    omega
  · have : Int.gcd a b ≤ b.natAbs := Nat.gcd_le_right _ (by omega)
    omega
theorem det_lt {v w : V2} {A : Nat} (h1 : v.1.natAbs < 2 ^ A ∧ v.2.natAbs < 2 ^ A) (h2 : w.1.natAbs < 2 ^ A ∧ w.2.natAbs < 2 ^ A) : (v.1 * w.2 - v.2 * w.1).natAbs < 2 ^ (2 * A + 2) := by
  have a := Int.natAbs_sub_le (v.1 * w.2) (v.2 * w.1)
  rw [Int.natAbs_mul, Int.natAbs_mul] at a
  have b := Nat.mul_le_mul (Nat.le_of_lt h1.1) (Nat.le_of_lt h2.2)
  have c := Nat.mul_le_mul (Nat.le_of_lt h1.2) (Nat.le_of_lt h2.1)
  rw [← Nat.pow_add] at b c
  have e : (2 : Nat) ^ (2 * A + 2) = 4 * 2 ^ (A + A) := by rw [Nat.pow_add, Nat.two_mul]; omega
  have p : 0 < (2 : Nat) ^ (A + A) := Nat.pow_pos (by decide)
  rw [e]
  omega
end LT
set_option Elab.async false
set_option linter.all false
set_option maxRecDepth 100000
set_option maxHeartbeats 4000000
namespace K54
open PySem PySem.Spec PyProof.Rows L2 MD
def top (i : Nat) : Stmt := PySem.Challenge.pw_twocounters_k54_loops_and_gaps.main.body.getD i (.Pass ⟨0, 0, 0, 0⟩)
structure Tab (P : Program) (w : World) (K : PySem.W.Frag) (mg : Str → Option Value) (base : Heap) (k : Nat) (t : Nat → Fn) (C_Unfit : Addr) : Prop where
  g_abs : mg "abs" = none
  g_all : mg "all" = none
  g_any : mg "any" = none
  g_bool : mg "bool" = none
  g_enumerate : mg "enumerate" = none
  g_int : mg "int" = none
  g_isinstance : mg "isinstance" = none
  g_len : mg "len" = none
  g_list : mg "list" = none
  g_max : mg "max" = none
  g_range : mg "range" = none
  g_sorted : mg "sorted" = none
  g_str : mg "str" = none
  g_tuple : mg "tuple" = none
  g_zip : mg "zip" = none
  k_MOST_ROOMS : Cst K mg "MOST_ROOMS" (.int (6))
  k_MOST_SPEED : Cst K mg "MOST_SPEED" (.int (9))
  k_MOST_STEPS : Cst K mg "MOST_STEPS" (.int (16))
  x_Unfit : Bare K mg "Unfit" C_Unfit
  ck_loop_moves_0 : FcalK P w K mg base k "loop_moves" 2 (t 20) 0 ["house", "room"]
  ck_room_gaps_0 : FcalK P w K mg base k "room_gaps" 2 (t 21) 0 ["house", "room"]
  c_is_number : Fcal P w K mg base k "is_number" 1 (t 0)
  c_is_within : Fcal P w K mg base k "is_within" 3 (t 1)
  c_sure_within : Fcal P w K mg base k "sure_within" 3 (t 2)
  c_is_long : Fcal P w K mg base k "is_long" 2 (t 3)
  c_are_numbers : Fcal P w K mg base k "are_numbers" 1 (t 4)
  c_tupled : Fcal P w K mg base k "tupled" 1 (t 5)
  c_is_move : Fcal P w K mg base k "is_move" 1 (t 6)
  c_taken : Fcal P w K mg base k "taken" 2 (t 7)
  c_often : Fcal P w K mg base k "often" 2 (t 8)
  c_is_step_of : Fcal P w K mg base k "is_step_of" 2 (t 9)
  c_is_house_of : Fcal P w K mg base k "is_house_of" 1 (t 10)
  c_sure_house : Fcal P w K mg base k "sure_house" 1 (t 11)
  c_less_in : Fcal P w K mg base k "less_in" 3 (t 12)
  c_turned_about : Fcal P w K mg base k "turned_about" 1 (t 13)
  c_divided_on : Fcal P w K mg base k "divided_on" 3 (t 14)
  c_lattice_in : Fcal P w K mg base k "lattice_in" 1 (t 15)
  c_brought_down : Fcal P w K mg base k "brought_down" 2 (t 16)
  c_told_in : Fcal P w K mg base k "told_in" 2 (t 17)
  c_sure_room : Fcal P w K mg base k "sure_room" 2 (t 18)
  c_moves_of : Fcal P w K mg base k "moves_of" 1 (t 19)
  c_loop_moves : Fcal P w K mg base k "loop_moves" 2 (t 20)
  c_room_gaps : Fcal P w K mg base k "room_gaps" 2 (t 21)
  c__law_box : Fcal P w K mg base k "_law_box" 2 (t 22)
  c__law_take : Fcal P w K mg base k "_law_take" 2 (t 23)
  c__law_cells : Fcal P w K mg base k "_law_cells" 2 (t 24)
  c__law_of : Fcal P w K mg base k "_law_of" 2 (t 25)
  c__law_mixed : Fcal P w K mg base k "_law_mixed" 2 (t 26)
  c__law_same : Fcal P w K mg base k "_law_same" 2 (t 27)
  c__law_plus : Fcal P w K mg base k "_law_plus" 2 (t 28)
  c__law_often : Fcal P w K mg base k "_law_often" 2 (t 29)
  c__law_move : Fcal P w K mg base k "_law_move" 2 (t 30)
  c__law_house : Fcal P w K mg base k "_law_house" 4 (t 31)
  c__law_divisor : Fcal P w K mg base k "_law_divisor" 2 (t 32)
  c__law_gaps : Fcal P w K mg base k "_law_gaps" 2 (t 33)
  c__law_loops : Fcal P w K mg base k "_law_loops" 2 (t 34)
  c__law_minors : Fcal P w K mg base k "_law_minors" 1 (t 35)
  c__law_is_sum : Fcal P w K mg base k "_law_is_sum" 2 (t 36)
  c__law_is_down : Fcal P w K mg base k "_law_is_down" 1 (t 37)
  c__law_by_hand_right : Fcal P w K mg base k "_law_by_hand_right" 0 (t 38)
  c__law_right : Fcal P w K mg base k "_law_right" 1 (t 39)
  c_law : Fcal P w K mg base k "law" 1 (t 40)
abbrev n_is_number : List Str := ["thing"]
abbrev p_is_number : List Str := ["thing"]
theorem sc_is_number : FnScope n_is_number p_is_number (defScope (top 3)) := ⟨rfl, rfl, rfl, by decide +kernel, rfl, by decide +kernel, by decide +kernel⟩
def b_is_number (C_Unfit : Addr) (t : Nat → Fn) : MS := msRet (mAndV (mOpN gIsi (mCons (mVar 0) (mCons (mC (.ty "int")) mNil))) (mNotV (mOpN gIsi (mCons (mVar 0) (mCons (mC (.ty "bool")) mNil)))))
abbrev n_is_within : List Str := ["thing", "least", "most"]
abbrev p_is_within : List Str := ["thing", "least", "most"]
theorem sc_is_within : FnScope n_is_within p_is_within (defScope (top 4)) := ⟨rfl, rfl, rfl, by decide +kernel, rfl, by decide +kernel, by decide +kernel⟩
def b_is_within (C_Unfit : Addr) (t : Nat → Fn) : MS := msRet (mAndV (mCallP 1 (t 0) (mCons (mVar 0) (mNil))) (mChain gLe gLe (mVar 1) (mVar 0) (mVar 2)))
abbrev n_sure_within : List Str := ["thing", "least", "most"]
abbrev p_sure_within : List Str := ["thing", "least", "most"]
theorem sc_sure_within : FnScope n_sure_within p_sure_within (defScope (top 5)) := ⟨rfl, rfl, rfl, by decide +kernel, rfl, by decide +kernel, by decide +kernel⟩
def b_sure_within (C_Unfit : Addr) (t : Nat → Fn) : MS := msSeq (msIf (mNot (mTru (mCallP 3 (t 1) (mCons (mVar 0) (mCons (mVar 1) (mCons (mVar 2) (mNil))))))) (msRaise (.own C_Unfit)) (msNil)) (msRet (mVar 0))
abbrev n_is_long : List Str := ["thing", "length"]
abbrev p_is_long : List Str := ["thing", "length"]
theorem sc_is_long : FnScope n_is_long p_is_long (defScope (top 6)) := ⟨rfl, rfl, rfl, by decide +kernel, rfl, by decide +kernel, by decide +kernel⟩
def b_is_long (C_Unfit : Addr) (t : Nat → Fn) : MS := msRet (mAndV (mOpN gIsi (mCons (mVar 0) (mCons (mC (.ty "tuple")) mNil))) (mOp2 gEq (mOpN gLen (mCons (mVar 0) (mNil))) (mVar 1)))
abbrev n_are_numbers : List Str := ["thing", "own"]
abbrev p_are_numbers : List Str := ["thing"]
theorem sc_are_numbers : FnScope n_are_numbers p_are_numbers (defScope (top 7)) := ⟨rfl, rfl, rfl, by decide +kernel, rfl, by decide +kernel, by decide +kernel⟩
def b_are_numbers (C_Unfit : Addr) (t : Nat → Fn) : MS := msRet (mAndV (mOpN gIsi (mCons (mVar 0) (mCons (mC (.ty "tuple")) mNil))) (mOpN gAll (mCons (mFrz (mLc 1000000 [1] (mSeqI (mVar 0)) (tgName 1) (mYes) (mCallP 1 (t 0) (mCons (mVar 1) (mNil))))) (mNil))))
abbrev n_tupled : List Str := ["value", "own"]
abbrev p_tupled : List Str := ["value"]
theorem sc_tupled : FnScope n_tupled p_tupled (defScope (top 8)) := ⟨rfl, rfl, rfl, by decide +kernel, rfl, by decide +kernel, by decide +kernel⟩
def b_tupled (C_Unfit : Addr) (t : Nat → Fn) : MS := msRet (mIte (mTru (mIsiT (mVar 0) ["list", "tuple"])) (mOpN gTuple (mCons (mFrz (mLc 1000000 [1] (mSeqI (mVar 0)) (tgName 1) (mYes) (mCallP 1 (t 5) (mCons (mVar 1) (mNil))))) (mNil))) (mVar 0))
abbrev n_is_move : List Str := ["thing"]
abbrev p_is_move : List Str := ["thing"]
theorem sc_is_move : FnScope n_is_move p_is_move (defScope (top 9)) := ⟨rfl, rfl, rfl, by decide +kernel, rfl, by decide +kernel, by decide +kernel⟩
def b_is_move (C_Unfit : Addr) (t : Nat → Fn) : MS := msRet (mAndV (mCallP 2 (t 3) (mCons (mVar 0) (mCons (mC (.int 2)) (mNil)))) (mCallP 1 (t 4) (mCons (mVar 0) (mNil))))
abbrev n_taken : List Str := ["one", "other"]
abbrev p_taken : List Str := ["one", "other"]
theorem sc_taken : FnScope n_taken p_taken (defScope (top 10)) := ⟨rfl, rfl, rfl, by decide +kernel, rfl, by decide +kernel, by decide +kernel⟩
def b_taken (C_Unfit : Addr) (t : Nat → Fn) : MS := msRet (mOpN gTup (mCons (mOp2 gSubI (mOp2 gSub (mVar 0) (mC (.int 0))) (mOp2 gSub (mVar 1) (mC (.int 0)))) (mCons (mOp2 gSubI (mOp2 gSub (mVar 0) (mC (.int 1))) (mOp2 gSub (mVar 1) (mC (.int 1)))) (mNil))))
abbrev n_often : List Str := ["many", "own"]
abbrev p_often : List Str := ["many", "own"]
theorem sc_often : FnScope n_often p_often (defScope (top 11)) := ⟨rfl, rfl, rfl, by decide +kernel, rfl, by decide +kernel, by decide +kernel⟩
def b_often (C_Unfit : Addr) (t : Nat → Fn) : MS := msRet (mOpN gTup (mCons (mOp2 gMul (mVar 0) (mOp2 gSub (mVar 1) (mC (.int 0)))) (mCons (mOp2 gMul (mVar 0) (mOp2 gSub (mVar 1) (mC (.int 1)))) (mNil))))
abbrev n_is_step_of : List Str := ["thing", "rooms"]
abbrev p_is_step_of : List Str := ["thing", "rooms"]
theorem sc_is_step_of : FnScope n_is_step_of p_is_step_of (defScope (top 16)) := ⟨rfl, rfl, rfl, by decide +kernel, rfl, by decide +kernel, by decide +kernel⟩
def b_is_step_of (C_Unfit : Addr) (t : Nat → Fn) : MS := msSeq (msIf (mOr (mNot (mTru (mCallP 2 (t 3) (mCons (mVar 0) (mCons (mC (.int 3)) (mNil)))))) (mNot (mTru (mCallP 1 (t 6) (mCons (mOp2 gSub (mVar 0) (mC (.int 1))) (mNil)))))) (msRet (mC (.bl false))) (msNil)) (msRet (mAndV (mCallP 3 (t 1) (mCons (mOp2 gSub (mVar 0) (mC (.int 0))) (mCons (mC (.int 0)) (mCons (mOp2 gSubI (mVar 1) (mC (.int 1))) (mNil))))) (mCallP 3 (t 1) (mCons (mOp2 gSub (mVar 0) (mC (.int 2))) (mCons (mC (.int 0)) (mCons (mOp2 gSubI (mVar 1) (mC (.int 1))) (mNil)))))))
abbrev n_is_house_of : List Str := ["thing", "own"]
abbrev p_is_house_of : List Str := ["thing"]
theorem sc_is_house_of : FnScope n_is_house_of p_is_house_of (defScope (top 17)) := ⟨rfl, rfl, rfl, by decide +kernel, rfl, by decide +kernel, by decide +kernel⟩
def b_is_house_of (C_Unfit : Addr) (t : Nat → Fn) : MS := msSeq (msIf (mOr (mNot (mTru (mCallP 2 (t 3) (mCons (mVar 0) (mCons (mC (.int 2)) (mNil)))))) (mOr (mNot (mTru (mCallP 1 (t 0) (mCons (mOp2 gSub (mVar 0) (mC (.int 0))) (mNil))))) (mOr (mTest (mOp2 gLt (mOp2 gSub (mVar 0) (mC (.int 0))) (mC (.int 1)))) (mNot (mTru (mOpN gIsi (mCons (mOp2 gSub (mVar 0) (mC (.int 1))) (mCons (mC (.ty "tuple")) mNil)))))))) (msRet (mC (.bl false))) (msNil)) (msRet (mOpN gAll (mCons (mFrz (mLc 1000000 [1] (mSeqI (mOp2 gSub (mVar 0) (mC (.int 1)))) (tgName 1) (mYes) (mCallP 2 (t 9) (mCons (mVar 1) (mCons (mOp2 gSub (mVar 0) (mC (.int 0))) (mNil)))))) (mNil))))
abbrev n_sure_house : List Str := ["value", "own", "its"]
abbrev p_sure_house : List Str := ["value"]
theorem sc_sure_house : FnScope n_sure_house p_sure_house (defScope (top 18)) := ⟨rfl, rfl, rfl, by decide +kernel, rfl, by decide +kernel, by decide +kernel⟩
def b_sure_house (C_Unfit : Addr) (t : Nat → Fn) : MS := msSeq (msAsg (mCallP 1 (t 5) (mCons (mVar 0) (mNil))) (tgName 1)) (msSeq (msIf (mOr (mNot (mTru (mCallP 1 (t 10) (mCons (mVar 1) (mNil))))) (mOr (mTest (mOp2 gGt (mOp2 gSub (mVar 1) (mC (.int 0))) (mC (.int (6))))) (mTest (mOp2 gGt (mOpN gLen (mCons (mOp2 gSub (mVar 1) (mC (.int 1))) (mNil))) (mC (.int (16))))))) (msRaise (.own C_Unfit)) (msNil)) (msSeq (msIf (mTru (mOpN gAny (mCons (mFrz (mLc 1000000 [2] (mSeqI (mOp2 gSub (mVar 1) (mC (.int 1)))) (tgName 2) (mYes) (mOp2 gGt (mOpN gMax2 (mCons (mOpN gAbs (mCons (mOp2 gSub (mOp2 gSub (mVar 2) (mC (.int 1))) (mC (.int 0))) (mNil))) (mCons (mOpN gAbs (mCons (mOp2 gSub (mOp2 gSub (mVar 2) (mC (.int 1))) (mC (.int 1))) (mNil))) (mNil)))) (mC (.int (9)))))) (mNil)))) (msRaise (.own C_Unfit)) (msNil)) (msRet (mVar 1))))
abbrev n_less_in : List Str := ["one", "other", "many", "row", "near", "far"]
abbrev p_less_in : List Str := ["one", "other", "many"]
theorem sc_less_in : FnScope n_less_in p_less_in (defScope (top 20)) := ⟨rfl, rfl, rfl, by decide +kernel, rfl, by decide +kernel, by decide +kernel⟩
def b_less_in (C_Unfit : Addr) (t : Nat → Fn) : MS := msSeq (msAsg (mOpN gTuple (mCons (mFrz (mLc 1000000 [4, 5] (mTwoI (mCons (mOp2 gSub (mVar 0) (mC (.int 1))) (mCons (mOp2 gSub (mVar 1) (mC (.int 1))) (mNil)))) (tgTup 2 (tgCons (tgName 4) (tgCons (tgName 5) (tgNil)))) (mYes) (mOp2 gSubI (mVar 4) (mOp2 gMul (mVar 2) (mVar 5))))) (mNil))) (tgName 3)) (msRet (mOpN gTup (mCons (mCallP 2 (t 7) (mCons (mOp2 gSub (mVar 0) (mC (.int 0))) (mCons (mCallP 2 (t 8) (mCons (mVar 2) (mCons (mOp2 gSub (mVar 1) (mC (.int 0))) (mNil)))) (mNil)))) (mCons (mVar 3) (mNil)))))
abbrev n_turned_about : List Str := ["own", "its"]
abbrev p_turned_about : List Str := ["own"]
theorem sc_turned_about : FnScope n_turned_about p_turned_about (defScope (top 21)) := ⟨rfl, rfl, rfl, by decide +kernel, rfl, by decide +kernel, by decide +kernel⟩
def b_turned_about (C_Unfit : Addr) (t : Nat → Fn) : MS := msRet (mOpN gTup (mCons (mCallP 2 (t 8) (mCons (mOp1 gNeg (mC (.int 1))) (mCons (mOp2 gSub (mVar 0) (mC (.int 0))) (mNil)))) (mCons (mOpN gTuple (mCons (mFrz (mLc 1000000 [1] (mSeqI (mOp2 gSub (mVar 0) (mC (.int 1)))) (tgName 1) (mYes) (mOp1 gNeg (mVar 1)))) (mNil))) (mNil))))
abbrev n_divided_on : List Str := ["one", "other", "place"]
abbrev p_divided_on : List Str := ["one", "other", "place"]
theorem sc_divided_on : FnScope n_divided_on p_divided_on (defScope (top 22)) := ⟨rfl, rfl, rfl, by decide +kernel, rfl, by decide +kernel, by decide +kernel⟩
def b_divided_on (C_Unfit : Addr) (t : Nat → Fn) : MS := msSeq (msWhile 1000000 (mTest (mOp2 gNe (mOp2 gSub (mOp2 gSub (mVar 1) (mC (.int 0))) (mVar 2)) (mC (.int 0)))) (msPar 0 1 (mCons (mVar 1) (mCons (mCallP 3 (t 12) (mCons (mVar 0) (mCons (mVar 1) (mCons (mOp2 gDiv (mOp2 gSub (mOp2 gSub (mVar 0) (mC (.int 0))) (mVar 2)) (mOp2 gSub (mOp2 gSub (mVar 1) (mC (.int 0))) (mVar 2))) (mNil))))) (mNil))))) (msRet (mOpN gTup (mCons (mVar 0) (mCons (mVar 1) (mNil)))))
abbrev n_lattice_in : List Str := ["loops", "first", "second", "own", "here"]
abbrev p_lattice_in : List Str := ["loops"]
theorem sc_lattice_in : FnScope n_lattice_in p_lattice_in (defScope (top 23)) := ⟨rfl, rfl, rfl, by decide +kernel, rfl, by decide +kernel, by decide +kernel⟩
def b_lattice_in (C_Unfit : Addr) (t : Nat → Fn) : MS := msSeq (msAsg (mOpN gTup (mCons (mC .non) (mCons (mC .non) (mNil)))) (tgTup 2 (tgCons (tgName 1) (tgCons (tgName 2) (tgNil))))) (msSeq (msFor 1000000 (mSeqI (mVar 0)) (tgName 3) (msSeq (msAsg (mVar 3) (tgName 4)) (msSeq (msIf (mTest (mOp2 gNe (mOp2 gSub (mOp2 gSub (mVar 4) (mC (.int 0))) (mC (.int 0))) (mC (.int 0)))) (msSeq (msIf (mTest (mOp2 gIsN (mVar 1) (mC .non))) (msSeq (msAsg (mVar 4) (tgName 1)) (msCont)) (msNil)) (msAsg (mCallP 3 (t 14) (mCons (mVar 1) (mCons (mVar 4) (mCons (mC (.int 0)) (mNil))))) (tgTup 2 (tgCons (tgName 1) (tgCons (tgName 4) (tgNil)))))) (msNil)) (msIf (mTest (mOp2 gNe (mOp2 gSub (mOp2 gSub (mVar 4) (mC (.int 0))) (mC (.int 1))) (mC (.int 0)))) (msAsg (mIte (mTest (mOp2 gIsN (mVar 2) (mC .non))) (mOpN gTup (mCons (mVar 4) (mCons (mVar 4) (mNil)))) (mCallP 3 (t 14) (mCons (mVar 2) (mCons (mVar 4) (mCons (mC (.int 1)) (mNil)))))) (tgTup 2 (tgCons (tgName 2) (tgCons (tgName 4) (tgNil))))) (msNil))))) (msSeq (msIf (mAnd (mTest (mOp2 gIsntN (mVar 1) (mC .non))) (mTest (mOp2 gLt (mOp2 gSub (mOp2 gSub (mVar 1) (mC (.int 0))) (mC (.int 0))) (mC (.int 0))))) (msAsg (mCallP 1 (t 13) (mCons (mVar 1) (mNil))) (tgName 1)) (msNil)) (msSeq (msIf (mAnd (mTest (mOp2 gIsntN (mVar 2) (mC .non))) (mTest (mOp2 gLt (mOp2 gSub (mOp2 gSub (mVar 2) (mC (.int 0))) (mC (.int 1))) (mC (.int 0))))) (msAsg (mCallP 1 (t 13) (mCons (mVar 2) (mNil))) (tgName 2)) (msNil)) (msSeq (msIf (mAnd (mTest (mOp2 gIsntN (mVar 1) (mC .non))) (mTest (mOp2 gIsntN (mVar 2) (mC .non)))) (msAsg (mCallP 3 (t 12) (mCons (mVar 1) (mCons (mVar 2) (mCons (mOp2 gDiv (mOp2 gSub (mOp2 gSub (mVar 1) (mC (.int 0))) (mC (.int 1))) (mOp2 gSub (mOp2 gSub (mVar 2) (mC (.int 0))) (mC (.int 1)))) (mNil))))) (tgName 1)) (msNil)) (msRet (mOpN gTup (mCons (mVar 1) (mCons (mVar 2) (mNil)))))))))
abbrev n_brought_down : List Str := ["own", "lattice", "first", "second"]
abbrev p_brought_down : List Str := ["own", "lattice"]
theorem sc_brought_down : FnScope n_brought_down p_brought_down (defScope (top 24)) := ⟨rfl, rfl, rfl, by decide +kernel, rfl, by decide +kernel, by decide +kernel⟩
def b_brought_down (C_Unfit : Addr) (t : Nat → Fn) : MS := msSeq (msAsg (mVar 1) (tgTup 2 (tgCons (tgName 2) (tgCons (tgName 3) (tgNil))))) (msSeq (msIf (mTest (mOp2 gIsntN (mVar 2) (mC .non))) (msAsg (mCallP 3 (t 12) (mCons (mVar 0) (mCons (mVar 2) (mCons (mOp2 gDiv (mOp2 gSub (mOp2 gSub (mVar 0) (mC (.int 0))) (mC (.int 0))) (mOp2 gSub (mOp2 gSub (mVar 2) (mC (.int 0))) (mC (.int 0)))) (mNil))))) (tgName 0)) (msNil)) (msRet (mIte (mTest (mOp2 gIsN (mVar 3) (mC .non))) (mVar 0) (mCallP 3 (t 12) (mCons (mVar 0) (mCons (mVar 3) (mCons (mOp2 gDiv (mOp2 gSub (mOp2 gSub (mVar 0) (mC (.int 0))) (mC (.int 1))) (mOp2 gSub (mOp2 gSub (mVar 3) (mC (.int 0))) (mC (.int 1)))) (mNil))))))))
abbrev n_told_in : List Str := ["house", "room", "many", "row", "known", "order", "place", "here", "number", "step", "unit", "own", "loops"]
abbrev p_told_in : List Str := ["house", "room"]
theorem sc_told_in : FnScope n_told_in p_told_in (defScope (top 25)) := ⟨rfl, rfl, rfl, by decide +kernel, rfl, by decide +kernel, by decide +kernel⟩
def b_told_in (C_Unfit : Addr) (t : Nat → Fn) : MS := msSeq (msPar 2 3 (mCons (mOpN gLen (mCons (mOp2 gSub (mVar 0) (mC (.int 1))) (mNil))) (mCons (mOp2 gMul (mOpN gTup (mCons (mC (.int 0)) (mNil))) (mOpN gLen (mCons (mOp2 gSub (mVar 0) (mC (.int 1))) (mNil)))) (mNil)))) (msSeq (msAsg (mOpN gTup (mCons (mDisp (mPCons (mVar 1) (mOpN gTup (mCons (mOpN gTup (mCons (mC (.int 0)) (mCons (mC (.int 0)) (mNil)))) (mCons (mVar 3) (mNil)))) (mPNil))) (mCons (mNew (mLst (mCons (mVar 1) (mNil)))) (mCons (mC (.int 0)) (mNil))))) (tgTup 3 (tgCons (tgName 4) (tgCons (tgName 5) (tgCons (tgName 6) (tgNil)))))) (msSeq (msWhile 1000000 (mTest (mOp2 gLt (mVar 6) (mOpN gLen (mCons (mVar 5) (mNil))))) (msSeq (msAsg (mOp2 gSub (mVar 5) (mVar 6)) (tgName 7)) (msSeq (msAug 6 gAddI (mC (.int 1))) (msFor 1000000 (mNumI (mCons (mOp2 gSub (mVar 0) (mC (.int 1))) (mNil))) (tgTup 2 (tgCons (tgName 8) (tgCons (tgName 9) (tgNil)))) (msSeq (msAsg (mOpN gTuple (mCons (mFrz (mLc 1000000 [11] (mRng1 (mCons (mVar 2) (mNil))) (tgName 11) (mYes) (mIte (mTest (mOp2 gEq (mVar 11) (mVar 8))) (mC (.int 1)) (mC (.int 0))))) (mNil))) (tgName 10)) (msSeq (msIf (mAnd (mTest (mOp2 gEq (mOp2 gSub (mVar 9) (mC (.int 0))) (mVar 7))) (mTest (mOp2 gNin (mOp2 gSub (mVar 9) (mC (.int 2))) (mVar 4)))) (msSeq (msSet (mCallP 3 (t 12) (mCons (mOp2 gSub (mVar 4) (mVar 7)) (mCons (mCallP 1 (t 13) (mCons (mOpN gTup (mCons (mOp2 gSub (mVar 9) (mC (.int 1))) (mCons (mVar 10) (mNil)))) (mNil))) (mCons (mC (.int 1)) (mNil))))) (mVar 4) (mOp2 gSub (mVar 9) (mC (.int 2)))) (msExpr (mMt "list" gAppend (mVar 5) (mCons (mOp2 gSub (mVar 9) (mC (.int 2))) (mNil))))) (msNil)) (msIf (mAnd (mTest (mOp2 gEq (mOp2 gSub (mVar 9) (mC (.int 2))) (mVar 7))) (mTest (mOp2 gNin (mOp2 gSub (mVar 9) (mC (.int 0))) (mVar 4)))) (msSeq (msSet (mCallP 3 (t 12) (mCons (mOp2 gSub (mVar 4) (mVar 7)) (mCons (mOpN gTup (mCons (mOp2 gSub (mVar 9) (mC (.int 1))) (mCons (mVar 10) (mNil)))) (mCons (mC (.int 1)) (mNil))))) (mVar 4) (mOp2 gSub (mVar 9) (mC (.int 0)))) (msExpr (mMt "list" gAppend (mVar 5) (mCons (mOp2 gSub (mVar 9) (mC (.int 0))) (mNil))))) (msNil)))))))) (msSeq (msAsg (mNew (mLst (mNil))) (tgName 12)) (msSeq (msFor 1000000 (mNumI (mCons (mOp2 gSub (mVar 0) (mC (.int 1))) (mNil))) (tgTup 2 (tgCons (tgName 8) (tgCons (tgName 9) (tgNil)))) (msIf (mTest (mOp2 gIn (mOp2 gSub (mVar 9) (mC (.int 0))) (mVar 4))) (msSeq (msAsg (mOpN gTuple (mCons (mFrz (mLc 1000000 [11] (mRng1 (mCons (mVar 2) (mNil))) (tgName 11) (mYes) (mIte (mTest (mOp2 gEq (mVar 11) (mVar 8))) (mC (.int 1)) (mC (.int 0))))) (mNil))) (tgName 10)) (msExpr (mMt "list" gAppend (mVar 12) (mCons (mCallP 3 (t 12) (mCons (mCallP 3 (t 12) (mCons (mOp2 gSub (mVar 4) (mOp2 gSub (mVar 9) (mC (.int 0)))) (mCons (mCallP 1 (t 13) (mCons (mOpN gTup (mCons (mOp2 gSub (mVar 9) (mC (.int 1))) (mCons (mVar 10) (mNil)))) (mNil))) (mCons (mC (.int 1)) (mNil))))) (mCons (mOp2 gSub (mVar 4) (mOp2 gSub (mVar 9) (mC (.int 2)))) (mCons (mC (.int 1)) (mNil))))) (mNil))))) (msNil))) (msRet (mOpN gTup (mCons (mFrz (mLc 1000000 [11] (mRng1 (mCons (mOp2 gSub (mVar 0) (mC (.int 0))) (mNil))) (tgName 11) (mYes) (mGet1 (mVar 4) (mVar 11)))) (mCons (mCallR 1 (t 15) (mCons (mVar 12) (mNil))) (mNil)))))))))
abbrev n_sure_room : List Str := ["house", "value"]
abbrev p_sure_room : List Str := ["house", "value"]
theorem sc_sure_room : FnScope n_sure_room p_sure_room (defScope (top 26)) := ⟨rfl, rfl, rfl, by decide +kernel, rfl, by decide +kernel, by decide +kernel⟩
def b_sure_room (C_Unfit : Addr) (t : Nat → Fn) : MS := msRet (mCallP 3 (t 2) (mCons (mVar 1) (mCons (mC (.int 0)) (mCons (mOp2 gSubI (mOp2 gSub (mVar 0) (mC (.int 0))) (mC (.int 1))) (mNil)))))
abbrev n_moves_of : List Str := ["lattice", "own"]
abbrev p_moves_of : List Str := ["lattice"]
theorem sc_moves_of : FnScope n_moves_of p_moves_of (defScope (top 27)) := ⟨rfl, rfl, rfl, by decide +kernel, rfl, by decide +kernel, by decide +kernel⟩
def b_moves_of (C_Unfit : Addr) (t : Nat → Fn) : MS := msRet (mOpN gTuple (mCons (mFrz (mLc 1000000 [1] (mSeqI (mVar 0)) (tgName 1) (mTest (mOp2 gIsntN (mVar 1) (mC .non))) (mOp2 gSub (mVar 1) (mC (.int 0))))) (mNil)))
abbrev n_loop_moves : List Str := ["house", "room", "own"]
abbrev p_loop_moves : List Str := ["house", "room"]
theorem sc_loop_moves : FnScope n_loop_moves p_loop_moves (defScope (top 28)) := ⟨rfl, rfl, rfl, by decide +kernel, rfl, by decide +kernel, by decide +kernel⟩
def b_loop_moves (C_Unfit : Addr) (t : Nat → Fn) : MS := msSeq (msAsg (mCallP 1 (t 11) (mCons (mVar 0) (mNil))) (tgName 2)) (msRet (mCallP 1 (t 19) (mCons (mOp2 gSub (mCallP 2 (t 17) (mCons (mVar 2) (mCons (mCallP 2 (t 18) (mCons (mVar 2) (mCons (mVar 1) (mNil)))) (mNil)))) (mC (.int 1))) (mNil))))
abbrev n_room_gaps : List Str := ["house", "room", "own", "gaps", "lattice", "its"]
abbrev p_room_gaps : List Str := ["house", "room"]
theorem sc_room_gaps : FnScope n_room_gaps p_room_gaps (defScope (top 29)) := ⟨rfl, rfl, rfl, by decide +kernel, rfl, by decide +kernel, by decide +kernel⟩
def b_room_gaps (C_Unfit : Addr) (t : Nat → Fn) : MS := msSeq (msAsg (mCallP 1 (t 11) (mCons (mVar 0) (mNil))) (tgName 2)) (msSeq (msAsg (mCallP 2 (t 17) (mCons (mVar 2) (mCons (mCallP 2 (t 18) (mCons (mVar 2) (mCons (mVar 1) (mNil)))) (mNil)))) (tgTup 2 (tgCons (tgName 3) (tgCons (tgName 4) (tgNil))))) (msRet (mOpN gTuple (mCons (mFrz (mLc 1000000 [5] (mSeqI (mVar 3)) (tgName 5) (mYes) (mIte (mTest (mOp2 gIsN (mVar 5) (mC .non))) (mC .non) (mOp2 gSub (mCallP 2 (t 16) (mCons (mVar 5) (mCons (mVar 4) (mNil)))) (mC (.int 0)))))) (mNil)))))
abbrev n__law_box : List Str := ["script", "k", "bit_so"]
abbrev p__law_box : List Str := ["script", "k"]
theorem sc__law_box : FnScope n__law_box p__law_box (defScope (top 31)) := ⟨rfl, rfl, rfl, by decide +kernel, rfl, by decide +kernel, by decide +kernel⟩
def b__law_box (C_Unfit : Addr) (t : Nat → Fn) : MS := msSeq (msAsg (mIte (mTest (mOp2 gLt (mVar 1) (mOpN gLen (mCons (mVar 0) (mNil))))) (mOp2 gSub (mVar 0) (mVar 1)) (mC (.int 0))) (tgName 2)) (msRet (mNew (mLst (mCons (mOp2 gMul (mOpN gAbs (mCons (mVar 2) (mNil))) (mOpN gInt (mCons (mOp2 gGe (mOpN gAbs (mCons (mVar 2) (mNil))) (mOp2 gPowI (mC (.int 10)) (mC (.int 18)))) (mNil)))) (mCons (mOp2 gAdd (mOp2 gAdd (mOp2 gModI (mOpN gInt (mCons (mVar 2) (mNil))) (mC (.int 2305843009213693951))) (mOp2 gMul (mC (.int 39373)) (mVar 1))) (mC (.int 24820054))) (mCons (mC (.int 0)) (mNil)))))))
abbrev n__law_take : List Str := ["tin", "below_so", "drawn_so", "once_so", "wide_so", "twice_so"]
abbrev p__law_take : List Str := ["tin", "below_so"]
theorem sc__law_take : FnScope n__law_take p__law_take (defScope (top 32)) := ⟨rfl, rfl, rfl, by decide +kernel, rfl, by decide +kernel, by decide +kernel⟩
def b__law_take (C_Unfit : Addr) (t : Nat → Fn) : MS := msSeq (msIf (mTest (mOp2 gGt (mOp2 gSub (mVar 0) (mC (.int 0))) (mC (.int 0)))) (msSeq (msAsg (mOp2 gModI (mOpN gInt (mCons (mOp2 gSub (mVar 0) (mC (.int 0))) (mNil))) (mVar 1)) (tgName 2)) (msSeq (msSet (mOp2 gDiv (mOp2 gSub (mVar 0) (mC (.int 0))) (mVar 1)) (mVar 0) (mC (.int 0))) (msRet (mVar 2)))) (msNil)) (msSeq (msSet (mOp2 gAdd (mOp2 gSub (mVar 0) (mC (.int 2))) (mC (.int 1))) (mVar 0) (mC (.int 2))) (msSeq (msAsg (mOp2 gModI (mOpN gInt (mCons (mOp2 gMul (mOp2 gAdd (mOp2 gSub (mVar 0) (mC (.int 1))) (mOp2 gMul (mC (.int 48271)) (mOp2 gSub (mVar 0) (mC (.int 2))))) (mOp2 gAdd (mC (.int 39373)) (mOp2 gSub (mVar 0) (mC (.int 2))))) (mNil))) (mC (.int 2147483647))) (tgName 3)) (msSeq (msAsg (mOp2 gAdd (mOp2 gModI (mOpN gInt (mCons (mVar 3) (mNil))) (mC (.int 40009))) (mC (.int 7))) (tgName 4)) (msSeq (msAsg (mOp2 gModI (mOpN gInt (mCons (mOp2 gMul (mOp2 gAdd (mOp2 gAdd (mVar 3) (mOp2 gSub (mVar 0) (mC (.int 2)))) (mOp2 gDiv (mOp2 gSub (mVar 0) (mC (.int 1))) (mC (.int 1000003)))) (mVar 4)) (mNil))) (mC (.int 2147483629))) (tgName 5)) (msRet (mOp2 gModI (mOpN gInt (mCons (mOp2 gDiv (mOp2 gModI (mOpN gInt (mCons (mOp2 gAdd (mOp2 gMul (mVar 5) (mC (.int 48271))) (mVar 3)) (mNil))) (mC (.int 2147483587))) (mC (.int 64))) (mNil))) (mVar 1)))))))
abbrev n__law_cells : List Str := ["script", "most_so", "cells_so", "k", "bit_so", "at_so"]
abbrev p__law_cells : List Str := ["script", "most_so"]
theorem sc__law_cells : FnScope n__law_cells p__law_cells (defScope (top 33)) := ⟨rfl, rfl, rfl, by decide +kernel, rfl, by decide +kernel, by decide +kernel⟩
def b__law_cells (C_Unfit : Addr) (t : Nat → Fn) : MS := msSeq (msAsg (mOrV (mNew (mCaL gList (mCons (mCut (mVar 0) (mPart none) (mPart (some (mVar 1)))) (mNil)))) (mNew (mLst (mCons (mC (.int 0)) (mNil))))) (tgName 2)) (msSeq (msFor 1000000 (mNumI (mCons (mCut (mVar 0) (mPart (some (mVar 1))) (mPart (some (mC (.int 63))))) (mNil))) (tgTup 2 (tgCons (tgName 3) (tgCons (tgName 4) (tgNil)))) (msSeq (msAsg (mOp2 gModI (mOpN gInt (mCons (mVar 3) (mNil))) (mVar 1)) (tgName 5)) (msSet (mOp2 gAdd (mOp2 gSub (mVar 2) (mVar 5)) (mOp2 gMul (mVar 4) (mOp2 gAdd (mVar 3) (mC (.int 2))))) (mVar 2) (mVar 5)))) (msRet (mVar 2)))
abbrev n__law_of : List Str := ["tin", "goods_so"]
abbrev p__law_of : List Str := ["tin", "goods_so"]
theorem sc__law_of : FnScope n__law_of p__law_of (defScope (top 34)) := ⟨rfl, rfl, rfl, by decide +kernel, rfl, by decide +kernel, by decide +kernel⟩
def b__law_of (C_Unfit : Addr) (t : Nat → Fn) : MS := msRet (mOp2 gSub (mVar 1) (mCall 2 (t 23) (mCons (mVar 0) (mCons (mOpN gLen (mCons (mVar 1) (mNil))) (mNil)))))
abbrev n__law_mixed : List Str := ["tin", "matter", "row_so", "bit"]
abbrev p__law_mixed : List Str := ["tin", "matter"]
theorem sc__law_mixed : FnScope n__law_mixed p__law_mixed (defScope (top 35)) := ⟨rfl, rfl, rfl, by decide +kernel, rfl, by decide +kernel, by decide +kernel⟩
def b__law_mixed (C_Unfit : Addr) (t : Nat → Fn) : MS := msSeq (msIf (mNot (mTru (mIsiT (mVar 1) ["list", "tuple"]))) (msRet (mVar 1)) (msNil)) (msSeq (msAsg (mFrz (mLc 1000000 [3] (mSeqI (mVar 1)) (tgName 3) (mYes) (mCall 2 (t 26) (mCons (mVar 0) (mCons (mVar 3) (mNil)))))) (tgName 2)) (msRet (mIte (mTest (mOp2 gEq (mCall 2 (t 23) (mCons (mVar 0) (mCons (mC (.int 2)) (mNil)))) (mC (.int 0)))) (mVar 2) (mOpN gTuple (mCons (mVar 2) (mNil))))))
abbrev n__law_same : List Str := ["got", "due", "mine", "its"]
abbrev p__law_same : List Str := ["got", "due"]
theorem sc__law_same : FnScope n__law_same p__law_same (defScope (top 36)) := ⟨rfl, rfl, rfl, by decide +kernel, rfl, by decide +kernel, by decide +kernel⟩
def b__law_same (C_Unfit : Addr) (t : Nat → Fn) : MS := msSeq (msIf (mTru (mIsiT (mVar 1) ["list", "tuple"])) (msSeq (msIf (mOr (mTest (mOp2 gNe (mOpN gIsi (mCons (mVar 0) (mCons (mC (.ty "list")) mNil))) (mOpN gIsi (mCons (mVar 1) (mCons (mC (.ty "list")) mNil))))) (mTest (mOp2 gNe (mOpN gIsi (mCons (mVar 0) (mCons (mC (.ty "tuple")) mNil))) (mOpN gIsi (mCons (mVar 1) (mCons (mC (.ty "tuple")) mNil)))))) (msRet (mC (.bl false))) (msNil)) (msRet (mAndV (mOp2 gEq (mOpN gLen (mCons (mVar 0) (mNil))) (mOpN gLen (mCons (mVar 1) (mNil)))) (mOpN gAll (mCons (mFrz (mLc 1000000 [2, 3] (mTwoI (mCons (mVar 0) (mCons (mVar 1) (mNil)))) (tgTup 2 (tgCons (tgName 2) (tgCons (tgName 3) (tgNil)))) (mYes) (mCallP 2 (t 27) (mCons (mVar 2) (mCons (mVar 3) (mNil)))))) (mNil)))))) (msNil)) (msSeq (msIf (mTest (mOp2 gIsN (mVar 1) (mC .non))) (msRet (mOp2 gIsN (mVar 0) (mC .non))) (msNil)) (msSeq (msIf (mTru (mIsiT (mVar 1) ["bool", "str"])) (msRet (mAndV (mOp2 gEq (mOpN gIsi (mCons (mVar 0) (mCons (mC (.ty "bool")) mNil))) (mOpN gIsi (mCons (mVar 1) (mCons (mC (.ty "bool")) mNil)))) (mAndV (mOp2 gEq (mOpN gIsi (mCons (mVar 0) (mCons (mC (.ty "str")) mNil))) (mOpN gIsi (mCons (mVar 1) (mCons (mC (.ty "str")) mNil)))) (mOp2 gEq (mVar 0) (mVar 1))))) (msNil)) (msRet (mAndV (mOpN gIsi (mCons (mVar 0) (mCons (mC (.ty "int")) mNil))) (mAndV (mNotV (mOpN gIsi (mCons (mVar 0) (mCons (mC (.ty "bool")) mNil)))) (mOp2 gEq (mVar 0) (mVar 1)))))))
abbrev n__law_plus : List Str := ["one", "two"]
abbrev p__law_plus : List Str := ["one", "two"]
theorem sc__law_plus : FnScope n__law_plus p__law_plus (defScope (top 37)) := ⟨rfl, rfl, rfl, by decide +kernel, rfl, by decide +kernel, by decide +kernel⟩
def b__law_plus (C_Unfit : Addr) (t : Nat → Fn) : MS := msRet (mOpN gTup (mCons (mOp2 gAdd (mOp2 gSub (mVar 0) (mC (.int 0))) (mOp2 gSub (mVar 1) (mC (.int 0)))) (mCons (mOp2 gAdd (mOp2 gSub (mVar 0) (mC (.int 1))) (mOp2 gSub (mVar 1) (mC (.int 1)))) (mNil))))
abbrev n__law_often : List Str := ["many_so", "own"]
abbrev p__law_often : List Str := ["many_so", "own"]
theorem sc__law_often : FnScope n__law_often p__law_often (defScope (top 38)) := ⟨rfl, rfl, rfl, by decide +kernel, rfl, by decide +kernel, by decide +kernel⟩
def b__law_often (C_Unfit : Addr) (t : Nat → Fn) : MS := msRet (mOpN gTup (mCons (mOp2 gMul (mVar 0) (mOp2 gSub (mVar 1) (mC (.int 0)))) (mCons (mOp2 gMul (mVar 0) (mOp2 gSub (mVar 1) (mC (.int 1)))) (mNil))))
abbrev n__law_move : List Str := ["tin", "most_so", "wide_so"]
abbrev p__law_move : List Str := ["tin", "most_so"]
theorem sc__law_move : FnScope n__law_move p__law_move (defScope (top 39)) := ⟨rfl, rfl, rfl, by decide +kernel, rfl, by decide +kernel, by decide +kernel⟩
def b__law_move (C_Unfit : Addr) (t : Nat → Fn) : MS := msSeq (msAsg (mOp2 gAdd (mC (.int 1)) (mCall 2 (t 23) (mCons (mVar 0) (mCons (mVar 1) (mNil))))) (tgName 2)) (msRet (mOpN gTup (mCons (mOp2 gSubI (mCall 2 (t 23) (mCons (mVar 0) (mCons (mOp2 gAdd (mOp2 gMul (mC (.int 2)) (mVar 2)) (mC (.int 1))) (mNil)))) (mVar 2)) (mCons (mOp2 gSubI (mCall 2 (t 23) (mCons (mVar 0) (mCons (mOp2 gAdd (mOp2 gMul (mC (.int 2)) (mVar 2)) (mC (.int 1))) (mNil)))) (mVar 2)) (mNil)))))
abbrev n__law_house : List Str := ["tin", "rooms_so", "steps_so", "speed_so", "many_so", "found", "k"]
abbrev p__law_house : List Str := ["tin", "rooms_so", "steps_so", "speed_so"]
theorem sc__law_house : FnScope n__law_house p__law_house (defScope (top 40)) := ⟨rfl, rfl, rfl, by decide +kernel, rfl, by decide +kernel, by decide +kernel⟩
def b__law_house (C_Unfit : Addr) (t : Nat → Fn) : MS := msSeq (msAsg (mOp2 gAdd (mC (.int 1)) (mCall 2 (t 23) (mCons (mVar 0) (mCons (mVar 1) (mNil))))) (tgName 4)) (msSeq (msAsg (mNew (mLst (mNil))) (tgName 5)) (msSeq (msFor 1000000 (mRng1 (mCons (mCall 2 (t 23) (mCons (mVar 0) (mCons (mOp2 gAdd (mVar 2) (mC (.int 1))) (mNil)))) (mNil))) (tgName 6) (msExpr (mMt "list" gAppend (mVar 5) (mCons (mOpN gTup (mCons (mCall 2 (t 23) (mCons (mVar 0) (mCons (mVar 4) (mNil)))) (mCons (mCall 2 (t 30) (mCons (mVar 0) (mCons (mVar 3) (mNil)))) (mCons (mCall 2 (t 23) (mCons (mVar 0) (mCons (mVar 4) (mNil)))) (mNil))))) (mNil))))) (msRet (mOpN gTup (mCons (mVar 4) (mCons (mOpN gTuple (mCons (mVar 5) (mNil))) (mNil)))))))
abbrev n__law_divisor : List Str := ["one", "two", "near", "far", "lap"]
abbrev p__law_divisor : List Str := ["one", "two"]
theorem sc__law_divisor : FnScope n__law_divisor p__law_divisor (defScope (top 41)) := ⟨rfl, rfl, rfl, by decide +kernel, rfl, by decide +kernel, by decide +kernel⟩
def b__law_divisor (C_Unfit : Addr) (t : Nat → Fn) : MS := msSeq (msPar 2 3 (mCons (mOpN gAbs (mCons (mVar 0) (mNil))) (mCons (mOpN gAbs (mCons (mVar 1) (mNil))) (mNil)))) (msSeq (msFor 1000000 (mRng1 (mCons (mC (.int 4000)) (mNil))) (tgName 4) (msSeq (msIf (mTest (mOp2 gEq (mVar 3) (mC (.int 0)))) (msRet (mVar 2)) (msNil)) (msPar 2 3 (mCons (mVar 3) (mCons (mOp2 gSubI (mVar 2) (mOp2 gMul (mOp2 gDiv (mVar 2) (mVar 3)) (mVar 3))) (mNil)))))) (msRet (mVar 2)))
abbrev n__law_gaps : List Str := ["house_so", "room_so", "found", "lap", "near", "move_so", "far"]
abbrev p__law_gaps : List Str := ["house_so", "room_so"]
theorem sc__law_gaps : FnScope n__law_gaps p__law_gaps (defScope (top 42)) := ⟨rfl, rfl, rfl, by decide +kernel, rfl, by decide +kernel, by decide +kernel⟩
def b__law_gaps (C_Unfit : Addr) (t : Nat → Fn) : MS := msSeq (msAsg (mDisp (mPCons (mVar 1) (mOpN gTup (mCons (mC (.int 0)) (mCons (mC (.int 0)) (mNil)))) (mPNil))) (tgName 2)) (msSeq (msFor 1000000 (mRng1 (mCons (mOp2 gSub (mVar 0) (mC (.int 0))) (mNil))) (tgName 3) (msFor 1000000 (mSeqI (mOp2 gSub (mVar 0) (mC (.int 1)))) (tgTup 3 (tgCons (tgName 4) (tgCons (tgName 5) (tgCons (tgName 6) (tgNil))))) (msSeq (msIf (mAnd (mTest (mOp2 gIn (mVar 4) (mVar 2))) (mTest (mOp2 gNin (mVar 6) (mVar 2)))) (msSet (mCallP 2 (t 28) (mCons (mOp2 gSub (mVar 2) (mVar 4)) (mCons (mVar 5) (mNil)))) (mVar 2) (mVar 6)) (msNil)) (msIf (mAnd (mTest (mOp2 gIn (mVar 6) (mVar 2))) (mTest (mOp2 gNin (mVar 4) (mVar 2)))) (msSet (mCallP 2 (t 28) (mCons (mOp2 gSub (mVar 2) (mVar 6)) (mCons (mCallP 2 (t 29) (mCons (mOp1 gNeg (mC (.int 1))) (mCons (mVar 5) (mNil)))) (mNil)))) (mVar 2) (mVar 4)) (msNil))))) (msRet (mVar 2)))
abbrev n__law_loops : List Str := ["house_so", "room_so", "gaps_so", "near", "move_so", "far"]
abbrev p__law_loops : List Str := ["house_so", "room_so"]
theorem sc__law_loops : FnScope n__law_loops p__law_loops (defScope (top 43)) := ⟨rfl, rfl, rfl, by decide +kernel, rfl, by decide +kernel, by decide +kernel⟩
def b__law_loops (C_Unfit : Addr) (t : Nat → Fn) : MS := msSeq (msAsg (mCall 2 (t 33) (mCons (mVar 0) (mCons (mVar 1) (mNil)))) (tgName 2)) (msRet (mFrz (mLc 1000000 [3, 4, 5] (mSeqI (mOp2 gSub (mVar 0) (mC (.int 1)))) (tgTup 3 (tgCons (tgName 3) (tgCons (tgName 4) (tgCons (tgName 5) (tgNil))))) (mTest (mOp2 gIn (mVar 3) (mVar 2))) (mCallP 2 (t 28) (mCons (mCallP 2 (t 28) (mCons (mOp2 gSub (mVar 2) (mVar 3)) (mCons (mVar 4) (mNil)))) (mCons (mCallP 2 (t 29) (mCons (mOp1 gNeg (mC (.int 1))) (mCons (mOp2 gSub (mVar 2) (mVar 5)) (mNil)))) (mNil)))))))
abbrev n__law_minors : List Str := ["moves_so", "numbers_so", "areas_so", "k", "own", "its"]
abbrev p__law_minors : List Str := ["moves_so"]
theorem sc__law_minors : FnScope n__law_minors p__law_minors (defScope (top 44)) := ⟨rfl, rfl, rfl, by decide +kernel, rfl, by decide +kernel, by decide +kernel⟩
def b__law_minors (C_Unfit : Addr) (t : Nat → Fn) : MS := msSeq (msAsg (mOpN gTup (mCons (mC (.int 0)) (mCons (mC (.int 0)) (mNil)))) (tgTup 2 (tgCons (tgName 1) (tgCons (tgName 2) (tgNil))))) (msSeq (msFor 1000000 (mNumI (mCons (mVar 0) (mNil))) (tgTup 2 (tgCons (tgName 3) (tgCons (tgName 4) (tgNil)))) (msSeq (msAsg (mCallP 2 (t 32) (mCons (mCallP 2 (t 32) (mCons (mVar 1) (mCons (mOp2 gSub (mVar 4) (mC (.int 0))) (mNil)))) (mCons (mOp2 gSub (mVar 4) (mC (.int 1))) (mNil)))) (tgName 1)) (msFor 1000000 (mSeqI (mCut (mVar 0) (mPart (some (mOp2 gAdd (mVar 3) (mC (.int 1))))) (mPart none))) (tgName 5) (msAsg (mCallP 2 (t 32) (mCons (mVar 2) (mCons (mOp2 gSubI (mOp2 gMul (mOp2 gSub (mVar 4) (mC (.int 0))) (mOp2 gSub (mVar 5) (mC (.int 1)))) (mOp2 gMul (mOp2 gSub (mVar 4) (mC (.int 1))) (mOp2 gSub (mVar 5) (mC (.int 0))))) (mNil)))) (tgName 2))))) (msRet (mOpN gTup (mCons (mVar 1) (mCons (mVar 2) (mNil))))))
abbrev n__law_is_sum : List Str := ["moves_so", "move_so", "near", "far"]
abbrev p__law_is_sum : List Str := ["moves_so", "move_so"]
theorem sc__law_is_sum : FnScope n__law_is_sum p__law_is_sum (defScope (top 45)) := ⟨rfl, rfl, rfl, by decide +kernel, rfl, by decide +kernel, by decide +kernel⟩
def b__law_is_sum (C_Unfit : Addr) (t : Nat → Fn) : MS := msSeq (msPar 2 3 (mCons (mCallP 1 (t 35) (mCons (mVar 0) (mNil))) (mCons (mCallP 1 (t 35) (mCons (mOp2 gAdd (mVar 0) (mFrz (mLst (mCons (mVar 1) (mNil))))) (mNil))) (mNil)))) (msRet (mIte (mAnd (mTest (mOp2 gEq (mOp2 gSub (mVar 2) (mC (.int 1))) (mC (.int 0)))) (mTest (mOp2 gEq (mOp2 gSub (mVar 3) (mC (.int 1))) (mC (.int 0))))) (mOp2 gEq (mVar 2) (mVar 3)) (mOp2 gEq (mOp2 gSub (mVar 2) (mC (.int 1))) (mOp2 gSub (mVar 3) (mC (.int 1))))))
abbrev n__law_is_down : List Str := ["moves_so", "own"]
abbrev p__law_is_down : List Str := ["moves_so"]
theorem sc__law_is_down : FnScope n__law_is_down p__law_is_down (defScope (top 46)) := ⟨rfl, rfl, rfl, by decide +kernel, rfl, by decide +kernel, by decide +kernel⟩
def b__law_is_down (C_Unfit : Addr) (t : Nat → Fn) : MS := msSeq (msIf (mOr (mTest (mOp2 gGt (mOpN gLen (mCons (mVar 0) (mNil))) (mC (.int 2)))) (mTest (mOp2 gNe (mFrz (mLc 1000000 [1] (mSeqI (mVar 0)) (tgName 1) (mOr (mAnd (mTest (mOp2 gEq (mOp2 gSub (mVar 1) (mC (.int 0))) (mC (.int 0)))) (mTest (mOp2 gLt (mOp2 gSub (mVar 1) (mC (.int 1))) (mC (.int 1))))) (mTest (mOp2 gLt (mOp2 gSub (mVar 1) (mC (.int 0))) (mC (.int 0))))) (mVar 1))) (mFrz (mLst (mNil)))))) (msRet (mC (.bl false))) (msNil)) (msRet (mOrV (mOp2 gLt (mOpN gLen (mCons (mVar 0) (mNil))) (mC (.int 2))) (mAndV (mOp2 gGt (mOp2 gSub (mOp2 gSub (mVar 0) (mC (.int 0))) (mC (.int 0))) (mC (.int 0))) (mAndV (mOp2 gEq (mOp2 gSub (mOp2 gSub (mVar 0) (mC (.int 1))) (mC (.int 0))) (mC (.int 0))) (mChain gLe gLt (mC (.int 0)) (mOp2 gSub (mOp2 gSub (mVar 0) (mC (.int 0))) (mC (.int 1))) (mOp2 gSub (mOp2 gSub (mVar 0) (mC (.int 1))) (mC (.int 1))))))))
abbrev n__law_by_hand_right : List Str := ["got", "due"]
abbrev p__law_by_hand_right : List Str := []
theorem sc__law_by_hand_right : FnScope n__law_by_hand_right p__law_by_hand_right (defScope (top 47)) := ⟨rfl, rfl, rfl, by decide +kernel, rfl, by decide +kernel, by decide +kernel⟩
def b__law_by_hand_right (C_Unfit : Addr) (t : Nat → Fn) : MS := msSeq (msAsg (mFrz (mLst (mCons (mCallP 2 (t 20) (mApp (mLen 0 mNil) (mCons (mOpN gTup (mCons (mC (.int 1)) (mCons (mOpN gTup (mCons (mOpN gTup (mCons (mC (.int 0)) (mCons (mOpN gTup (mCons (mC (.int 4)) (mCons (mC (.int 6)) (mNil)))) (mCons (mC (.int 0)) (mNil))))) (mCons (mOpN gTup (mCons (mC (.int 0)) (mCons (mOpN gTup (mCons (mC (.int 6)) (mCons (mC (.int 9)) (mNil)))) (mCons (mC (.int 0)) (mNil))))) (mNil)))) (mNil)))) (mCons (mC (.int 0)) (mNil))))) (mCons (mCallP 2 (t 20) (mCons (mOpN gTup (mCons (mC (.int 1)) (mCons (mOpN gTup (mCons (mOpN gTup (mCons (mC (.int 0)) (mCons (mOpN gTup (mCons (mC (.int 0)) (mCons (mOp1 gNeg (mC (.int 3))) (mNil)))) (mCons (mC (.int 0)) (mNil))))) (mNil))) (mNil)))) (mCons (mC (.int 0)) (mNil)))) (mCons (mCallP 2 (t 20) (mCons (mOpN gTup (mCons (mC (.int 1)) (mCons (mOpN gTup (mCons (mOpN gTup (mCons (mC (.int 0)) (mCons (mOpN gTup (mCons (mOp1 gNeg (mC (.int 2))) (mCons (mC (.int 3)) (mNil)))) (mCons (mC (.int 0)) (mNil))))) (mNil))) (mNil)))) (mCons (mC (.int 0)) (mNil)))) (mCons (mCallP 2 (t 20) (mCons (mOpN gTup (mCons (mC (.int 2)) (mCons (mOpN gTup (mCons (mOpN gTup (mCons (mC (.int 0)) (mCons (mOpN gTup (mCons (mC (.int 1)) (mCons (mC (.int 1)) (mNil)))) (mCons (mC (.int 1)) (mNil))))) (mNil))) (mNil)))) (mCons (mC (.int 0)) (mNil)))) (mNil))))))) (tgName 0)) (msSeq (msAsg (mOp2 gAdd (mVar 0) (mFrz (mLst (mCons (mCallP 2 (t 20) (mCons (mOpN gTup (mCons (mC (.int 1)) (mCons (mOpN gTup (mCons (mOpN gTup (mCons (mC (.int 0)) (mCons (mOpN gTup (mCons (mC (.int 2)) (mCons (mC (.int 1)) (mNil)))) (mCons (mC (.int 0)) (mNil))))) (mCons (mOpN gTup (mCons (mC (.int 0)) (mCons (mOpN gTup (mCons (mC (.int 0)) (mCons (mC (.int 3)) (mNil)))) (mCons (mC (.int 0)) (mNil))))) (mCons (mOpN gTup (mCons (mC (.int 0)) (mCons (mOpN gTup (mCons (mC (.int 4)) (mCons (mC (.int 5)) (mNil)))) (mCons (mC (.int 0)) (mNil))))) (mNil))))) (mNil)))) (mCons (mC (.int 0)) (mNil)))) (mCons (mCallP 2 (t 21) (mApp (mLen 0 mNil) (mCons (mOpN gTup (mCons (mC (.int 3)) (mCons (mOpN gTup (mCons (mOpN gTup (mCons (mC (.int 0)) (mCons (mOpN gTup (mCons (mC (.int 5)) (mCons (mOp1 gNeg (mC (.int 7))) (mNil)))) (mCons (mC (.int 1)) (mNil))))) (mCons (mOpN gTup (mCons (mC (.int 0)) (mCons (mOpN gTup (mCons (mC (.int 2)) (mCons (mC (.int 0)) (mNil)))) (mCons (mC (.int 0)) (mNil))))) (mCons (mOpN gTup (mCons (mC (.int 0)) (mCons (mOpN gTup (mCons (mC (.int 0)) (mCons (mC (.int 3)) (mNil)))) (mCons (mC (.int 0)) (mNil))))) (mNil))))) (mNil)))) (mCons (mC (.int 0)) (mNil))))) (mCons (mCallP 2 (t 21) (mCons (mOpN gTup (mCons (mC (.int 2)) (mCons (mOpN gTup (mCons (mOpN gTup (mCons (mC (.int 1)) (mCons (mOpN gTup (mCons (mC (.int 3)) (mCons (mC (.int 4)) (mNil)))) (mCons (mC (.int 0)) (mNil))))) (mNil))) (mNil)))) (mCons (mC (.int 0)) (mNil)))) (mNil))))))) (tgName 0)) (msSeq (msAsg (mFrz (mLst (mCons (mOpN gTup (mCons (mOpN gTup (mCons (mC (.int 2)) (mCons (mC (.int 3)) (mNil)))) (mNil))) (mCons (mOpN gTup (mCons (mOpN gTup (mCons (mC (.int 0)) (mCons (mC (.int 3)) (mNil)))) (mNil))) (mCons (mOpN gTup (mCons (mOpN gTup (mCons (mC (.int 2)) (mCons (mOp1 gNeg (mC (.int 3))) (mNil)))) (mNil))) (mCons (mOpN gTup (mNil)) (mCons (mOpN gTup (mCons (mOpN gTup (mCons (mC (.int 2)) (mCons (mC (.int 1)) (mNil)))) (mCons (mOpN gTup (mCons (mC (.int 0)) (mCons (mC (.int 3)) (mNil)))) (mNil)))) (mCons (mOpN gTup (mCons (mOpN gTup (mCons (mC (.int 0)) (mCons (mC (.int 0)) (mNil)))) (mCons (mOpN gTup (mCons (mC (.int 1)) (mCons (mC (.int 2)) (mNil)))) (mCons (mC .non) (mNil))))) (mCons (mOpN gTup (mCons (mOpN gTup (mCons (mC (.int 0)) (mCons (mC (.int 0)) (mNil)))) (mCons (mOpN gTup (mCons (mOp1 gNeg (mC (.int 3))) (mCons (mOp1 gNeg (mC (.int 4))) (mNil)))) (mNil)))) (mNil)))))))))) (tgName 1)) (msRet (mCallP 2 (t 27) (mCons (mVar 0) (mCons (mVar 1) (mNil)))))))
abbrev n__law_right : List Str := ["tin", "house_so", "room_so", "told_so", "loops_so", "k", "gaps_so", "due", "x", "y", "own"]
abbrev p__law_right : List Str := ["tin"]
theorem sc__law_right : FnScope n__law_right p__law_right (defScope (top 48)) := ⟨rfl, rfl, rfl, by decide +kernel, rfl, by decide +kernel, by decide +kernel⟩
def b__law_right (C_Unfit : Addr) (t : Nat → Fn) : MS := msSeq (msAsg (mCall 4 (t 31) (mCons (mVar 0) (mCons (mC (.int 6)) (mCons (mC (.int 8)) (mCons (mCall 2 (t 25) (mCons (mVar 0) (mCons (mFrz (mLst (mCons (mC (.int 2)) (mCons (mC (.int 4)) (mCons (mC (.int 9)) (mNil)))))) (mNil)))) (mNil)))))) (tgName 1)) (msSeq (msFor 1000000 (mRng1 (mCons (mOp2 gSub (mVar 1) (mC (.int 0))) (mNil))) (tgName 2) (msSeq (msAsg (mCallP 2 (t 20) (mCons (mCall 2 (t 26) (mCons (mVar 0) (mCons (mVar 1) (mNil)))) (mCons (mVar 2) (mNil)))) (tgName 3)) (msSeq (msAsg (mCallP 2 (t 34) (mCons (mVar 1) (mCons (mVar 2) (mNil)))) (tgName 4)) (msSeq (msIf (mOr (mNot (mTru (mOpN gIsi (mCons (mVar 3) (mCons (mC (.ty "tuple")) mNil))))) (mOr (mNot (mTru (mCallP 1 (t 37) (mCons (mVar 3) (mNil))))) (mTest (mOp2 gNe (mFrz (mLc 1000000 [10] (mSeqI (mVar 4)) (tgName 10) (mNot (mTru (mCallP 2 (t 36) (mCons (mFrz (mCaL gList (mCons (mVar 3) (mNil)))) (mCons (mVar 10) (mNil)))))) (mVar 10))) (mFrz (mLst (mNil))))))) (msRet (mC (.bl false))) (msNil)) (msSeq (msIf (mTest (mOp2 gNe (mFrz (mLc 1000000 [10] (mSeqI (mVar 3)) (tgName 10) (mNot (mTru (mCallP 2 (t 36) (mCons (mVar 4) (mCons (mVar 10) (mNil)))))) (mVar 10))) (mFrz (mLst (mNil))))) (msRet (mC (.bl false))) (msNil)) (msSeq (msPar 6 7 (mCons (mCallP 2 (t 21) (mCons (mVar 1) (mCons (mVar 2) (mNil)))) (mCons (mCall 2 (t 33) (mCons (mVar 1) (mCons (mVar 2) (mNil)))) (mNil)))) (msSeq (msIf (mOr (mNot (mTru (mOpN gIsi (mCons (mVar 6) (mCons (mC (.ty "tuple")) mNil))))) (mOr (mTest (mOp2 gNe (mOpN gLen (mCons (mVar 6) (mNil))) (mOp2 gSub (mVar 1) (mC (.int 0))))) (mTest (mOp2 gNe (mFrz (mLc 1000000 [5, 10] (mNumI (mCons (mVar 6) (mNil))) (tgTup 2 (tgCons (tgName 5) (tgCons (tgName 10) (tgNil)))) (mTest (mOp2 gIsntN (mVar 10) (mC .non))) (mVar 5))) (mFrz (mCaL gSortU (mCons (mVar 7) (mNil)))))))) (msRet (mC (.bl false))) (msNil)) (msSeq (msForK 1000000 7 (tgName 5) (msSeq (msAsg (mOp2 gSub (mVar 6) (mVar 5)) (tgTup 2 (tgCons (tgName 8) (tgCons (tgName 9) (tgNil))))) (msSeq (msIf (mNot (mTru (mCallP 2 (t 36) (mCons (mVar 4) (mCons (mCallP 2 (t 28) (mCons (mOp2 gSub (mVar 6) (mVar 5)) (mCons (mCallP 2 (t 29) (mCons (mOp1 gNeg (mC (.int 1))) (mCons (mOp2 gSub (mVar 7) (mVar 5)) (mNil)))) (mNil)))) (mNil)))))) (msRet (mC (.bl false))) (msNil)) (msIf (mTest (mOp2 gNe (mFrz (mLc 1000000 [10] (mSeqI (mVar 3)) (tgName 10) (mOr (mAnd (mTest (mOp2 gGt (mOp2 gSub (mVar 10) (mC (.int 0))) (mC (.int 0)))) (mNot (mTest (mChain gLe gLt (mC (.int 0)) (mVar 8) (mOp2 gSub (mVar 10) (mC (.int 0))))))) (mAnd (mTest (mOp2 gEq (mOp2 gSub (mVar 10) (mC (.int 0))) (mC (.int 0)))) (mNot (mTest (mChain gLe gLt (mC (.int 0)) (mVar 9) (mOp2 gSub (mVar 10) (mC (.int 1)))))))) (mVar 10))) (mFrz (mLst (mNil))))) (msRet (mC (.bl false))) (msNil))))) (msForK 1000000 7 (tgName 5) (msSeq (msIf (mOr (mNot (mTru (mCallP 2 (t 27) (mCons (mCallP 2 (t 20) (mCons (mVar 1) (mCons (mVar 5) (mNil)))) (mCons (mVar 3) (mNil)))))) (mNot (mTru (mCallP 2 (t 27) (mCons (mOp2 gSub (mCallP 2 (t 21) (mCons (mVar 1) (mCons (mVar 5) (mNil)))) (mVar 5)) (mCons (mOpN gTup (mCons (mC (.int 0)) (mCons (mC (.int 0)) (mNil)))) (mNil))))))) (msRet (mC (.bl false))) (msNil)) (msIf (mNot (mTru (mCallP 2 (t 36) (mCons (mVar 4) (mCons (mCallP 2 (t 28) (mCons (mOp2 gSub (mCallP 2 (t 21) (mCons (mVar 1) (mCons (mVar 5) (mNil)))) (mVar 2)) (mCons (mOp2 gSub (mVar 6) (mVar 5)) (mNil)))) (mNil)))))) (msRet (mC (.bl false))) (msNil)))))))))))) (msRet (mC (.bl true))))
abbrev n_law : List Str := ["script", "cells_so", "k", "lap", "own"]
abbrev p_law : List Str := ["script"]
theorem sc_law : FnScope n_law p_law (defScope (top 49)) := ⟨rfl, rfl, rfl, by decide +kernel, rfl, by decide +kernel, by decide +kernel⟩
def b_law (C_Unfit : Addr) (t : Nat → Fn) : MS := msSeq (msAsg (mCallP 2 (t 24) (mCons (mVar 0) (mCons (mC (.int 2)) (mNil)))) (tgName 1)) (msRet (mAndV (mCallP 0 (t 38) mNil) (mOpN gAll (mCons (mFrz (mLc 1000000 [2] (mRng1 (mCons (mOpN gLen (mCons (mVar 1) (mNil))) (mNil))) (tgName 2) (mYes) (mOpN gAll (mCons (mFrz (mLc 1000000 [3] (mSeqI (mOpN gTup (mCons (mC (.int 0)) (mCons (mC (.int 2)) (mCons (mC (.int 7)) (mNil)))))) (tgName 3) (mYes) (mCall 1 (t 39) (mCons (mCall 2 (t 22) (mCons (mFrz (mLc 1000000 [4] (mSeqI (mVar 1)) (tgName 4) (mYes) (mOp2 gAdd (mVar 4) (mVar 3)))) (mCons (mVar 2) (mNil)))) (mNil))))) (mNil))))) (mNil)))))
section
variable {P : Program} {w : World} {K : PySem.W.Frag} {mg : Str → Option Value} {base : Heap} {k : Nat} {t : Nat → Fn} {C_Unfit : Addr}
theorem d_is_number (T : Tab P w K mg base k t C_Unfit) {f : Addr} {fd : FuncData} (F : Fun K "is_number" "is_number" (top 3) f fd) : FnOk P w K mg base (L2.CX P w) (k + 1) f fd p_is_number (spF K 1 (mkF 1 (b_is_number C_Unfit t))) :=
  ok_fn (N := n_is_number) F sc_is_number rfl fun cdv A outer s H E hr => pbl_one (psd_ret (pd_andV (pd_callB call_isi cas_isi (by rfl) T.g_isinstance (pas_cons (pd_var 0) (pas_cons (pd_tyN (by rfl) T.g_int (by decide +kernel)) pas_nil))) (pd_one (pd_notV (pd_callB call_isi cas_isi (by rfl) T.g_isinstance (pas_cons (pd_var 0) (pas_cons (pd_tyN (by rfl) T.g_bool (by decide +kernel)) pas_nil)))))))
theorem d_is_within (T : Tab P w K mg base k t C_Unfit) {f : Addr} {fd : FuncData} (F : Fun K "is_within" "is_within" (top 4) f fd) : FnOk P w K mg base (L2.CX P w) (k + 1) f fd p_is_within (spF K 3 (mkF 3 (b_is_within C_Unfit t))) :=
  ok_fn (N := n_is_within) F sc_is_within rfl fun cdv A outer s H E hr => pbl_one (psd_ret (pd_andV (pd_callP T.c_is_number hr (Nat.le_refl _) (takes_of rfl rfl rfl rfl) (by rfl) (pas_cons (pd_var 0) (pas_nil))) (pd_one (pd_chain op_le ops_le op_le ops_le (pd_var 1) (pd_var 0) (pd_var 2)))))
theorem d_sure_within (T : Tab P w K mg base k t C_Unfit) {f : Addr} {fd : FuncData} (F : Fun K "sure_within" "sure_within" (top 5) f fd) : FnOk P w K mg base (L2.CX P w) (k + 1) f fd p_sure_within (spF K 3 (mkF 3 (b_sure_within C_Unfit t))) :=
  ok_fn (N := n_sure_within) F sc_sure_within rfl fun cdv A outer s H E hr => pbl_cons (psd_if (pb_not (pb_tru (pd_callP T.c_is_within hr (Nat.le_refl _) (takes_of rfl rfl rfl rfl) (by rfl) (pas_cons (pd_var 0) (pas_cons (pd_var 1) (pas_cons (pd_var 2) (pas_nil))))))) (pbl_one (psd_raise T.x_Unfit rfl (takes_of rfl rfl rfl rfl) (by rfl))) (pbl_nil)) (pbl_one (psd_ret (pd_var 0)))
theorem d_is_long (T : Tab P w K mg base k t C_Unfit) {f : Addr} {fd : FuncData} (F : Fun K "is_long" "is_long" (top 6) f fd) : FnOk P w K mg base (L2.CX P w) (k + 1) f fd p_is_long (spF K 2 (mkF 2 (b_is_long C_Unfit t))) :=
  ok_fn (N := n_is_long) F sc_is_long rfl fun cdv A outer s H E hr => pbl_one (psd_ret (pd_andV (pd_callB call_isi cas_isi (by rfl) T.g_isinstance (pas_cons (pd_var 0) (pas_cons (pd_tyN (by rfl) T.g_tuple (by decide +kernel)) pas_nil))) (pd_one (pd_cmp (op_eqD (Room.u64 hr)) ops_eq (pd_callB call_len cas_len (by rfl) T.g_len (pas_cons (pd_var 0) (pas_nil))) (pd_var 1) (nomark _)))))
theorem d_are_numbers (T : Tab P w K mg base k t C_Unfit) {f : Addr} {fd : FuncData} (F : Fun K "are_numbers" "are_numbers" (top 7) f fd) : FnOk P w K mg base (L2.CX P w) (k + 1) f fd p_are_numbers (spF K 1 (mkF 2 (b_are_numbers C_Unfit t))) :=
  ok_fn (N := n_are_numbers) F sc_are_numbers rfl fun cdv A outer s H E hr => pbl_one (psd_ret (pd_andV (pd_callB call_isi cas_isi (by rfl) T.g_isinstance (pas_cons (pd_var 0) (pas_cons (pd_tyN (by rfl) T.g_tuple (by decide +kernel)) pas_nil))) (pd_one (pd_callB (cr_all rfl) cas_all (by rfl) T.g_all (pas_cons ((pl_lc (own := [("own", 1)]) 1000000 rfl sc_are_numbers.nd (pid_seq (pd_var 0)) (blkOk_by (N := n_are_numbers) (sc := defScope (top 7)) (own := [("own", 1)]) (by decide +kernel)) (fun _ _ _ _ _ => pgd_name 1 sc_are_numbers.nd) (fun _ _ _ _ _ => ptsd_nil) (fun _ _ _ _ _ => pd_callP T.c_is_number hr (Nat.le_refl _) takes0 (by rfl) (pas_cons (pd_var 1) (pas_nil)))).frz) (pas_nil))))))
theorem d_tupled (T : Tab P w K mg base k t C_Unfit) {f : Addr} {fd : FuncData} (F : Fun K "tupled" "tupled" (top 8) f fd) : FnOk P w K mg base (L2.CX P w) (k + 1) f fd p_tupled (spF K 1 (mkF 2 (b_tupled C_Unfit t))) :=
  ok_fn (N := n_tupled) F sc_tupled rfl fun cdv A outer s H E hr => pbl_one (psd_ret (pd_ite (pb_tru (pd_isiT (by rfl) T.g_isinstance (pd_var 0) (pa_tys_cons (pe_tyN (by rfl) T.g_list (by decide +kernel)) (pa_tys_cons (pe_tyN (by rfl) T.g_tuple (by decide +kernel)) (pa_tys_nil))))) (pd_callTy call_tuple_of cas_tuple (by rfl) T.g_tuple (pas_cons ((pl_lc (own := [("own", 1)]) 1000000 rfl sc_tupled.nd (pid_seq (pd_var 0)) (blkOk_by (N := n_tupled) (sc := defScope (top 8)) (own := [("own", 1)]) (by decide +kernel)) (fun _ _ _ _ _ => pgd_name 1 sc_tupled.nd) (fun _ _ _ _ _ => ptsd_nil) (fun _ _ _ _ _ => pd_callP T.c_tupled hr (Nat.le_refl _) takes0 (by rfl) (pas_cons (pd_var 1) (pas_nil)))).frz) (pas_nil))) (pd_var 0)))
theorem d_is_move (T : Tab P w K mg base k t C_Unfit) {f : Addr} {fd : FuncData} (F : Fun K "is_move" "is_move" (top 9) f fd) : FnOk P w K mg base (L2.CX P w) (k + 1) f fd p_is_move (spF K 1 (mkF 1 (b_is_move C_Unfit t))) :=
  ok_fn (N := n_is_move) F sc_is_move rfl fun cdv A outer s H E hr => pbl_one (psd_ret (pd_andV (pd_callP T.c_is_long hr (Nat.le_refl _) (takes_of rfl rfl rfl rfl) (by rfl) (pas_cons (pd_var 0) (pas_cons (pd_int) (pas_nil)))) (pd_one (pd_callP T.c_are_numbers hr (Nat.le_refl _) (takes_of rfl rfl rfl rfl) (by rfl) (pas_cons (pd_var 0) (pas_nil))))))
theorem d_taken (T : Tab P w K mg base k t C_Unfit) {f : Addr} {fd : FuncData} (F : Fun K "taken" "taken" (top 10) f fd) : FnOk P w K mg base (L2.CX P w) (k + 1) f fd p_taken (spF K 2 (mkF 2 (b_taken C_Unfit t))) :=
  ok_fn (N := n_taken) F sc_taken rfl fun cdv A outer s H E hr => pbl_one (psd_ret (pd_tup (pas_cons (pd_bin op_sub ops_subI (pd_sub (Room.u65 hr) (pd_var 0) (pd_int)) (pd_sub (Room.u65 hr) (pd_var 1) (pd_int))) (pas_cons (pd_bin op_sub ops_subI (pd_sub (Room.u65 hr) (pd_var 0) (pd_int)) (pd_sub (Room.u65 hr) (pd_var 1) (pd_int))) (pas_nil)))))
theorem d_often (T : Tab P w K mg base k t C_Unfit) {f : Addr} {fd : FuncData} (F : Fun K "often" "often" (top 11) f fd) : FnOk P w K mg base (L2.CX P w) (k + 1) f fd p_often (spF K 2 (mkF 2 (b_often C_Unfit t))) :=
  ok_fn (N := n_often) F sc_often rfl fun cdv A outer s H E hr => pbl_one (psd_ret (pd_tup (pas_cons (pd_bin op_mulU ops_mulU (pd_var 0) (pd_sub (Room.u65 hr) (pd_var 1) (pd_int))) (pas_cons (pd_bin op_mulU ops_mulU (pd_var 0) (pd_sub (Room.u65 hr) (pd_var 1) (pd_int))) (pas_nil)))))
theorem d_is_step_of (T : Tab P w K mg base k t C_Unfit) {f : Addr} {fd : FuncData} (F : Fun K "is_step_of" "is_step_of" (top 16) f fd) : FnOk P w K mg base (L2.CX P w) (k + 1) f fd p_is_step_of (spF K 2 (mkF 2 (b_is_step_of C_Unfit t))) :=
  ok_fn (N := n_is_step_of) F sc_is_step_of rfl fun cdv A outer s H E hr => pbl_cons (psd_if (PWB.pb (pwb_or (pb_not (pb_tru (pd_callP T.c_is_long hr (Nat.le_refl _) (takes_of rfl rfl rfl rfl) (by rfl) (pas_cons (pd_var 0) (pas_cons (pd_int) (pas_nil)))))) (pwb_or1 (pb_not (pb_tru (pd_callP T.c_is_move hr (Nat.le_refl _) (takes_of rfl rfl rfl rfl) (by rfl) (pas_cons (pd_sub (Room.u65 hr) (pd_var 0) (pd_int)) (pas_nil)))))))) (pbl_one (psd_ret (pd_bl))) (pbl_nil)) (pbl_one (psd_ret (pd_andV (pd_callP T.c_is_within hr (Nat.le_refl _) (takes_of rfl rfl rfl rfl) (by rfl) (pas_cons (pd_sub (Room.u65 hr) (pd_var 0) (pd_int)) (pas_cons (pd_int) (pas_cons (pd_bin op_sub ops_subI (pd_var 1) (pd_int)) (pas_nil))))) (pd_one (pd_callP T.c_is_within hr (Nat.le_refl _) (takes_of rfl rfl rfl rfl) (by rfl) (pas_cons (pd_sub (Room.u65 hr) (pd_var 0) (pd_int)) (pas_cons (pd_int) (pas_cons (pd_bin op_sub ops_subI (pd_var 1) (pd_int)) (pas_nil)))))))))
theorem d_is_house_of (T : Tab P w K mg base k t C_Unfit) {f : Addr} {fd : FuncData} (F : Fun K "is_house_of" "is_house_of" (top 17) f fd) : FnOk P w K mg base (L2.CX P w) (k + 1) f fd p_is_house_of (spF K 1 (mkF 2 (b_is_house_of C_Unfit t))) :=
  ok_fn (N := n_is_house_of) F sc_is_house_of rfl fun cdv A outer s H E hr => pbl_cons (psd_if (PWB.pb (pwb_or (pb_not (pb_tru (pd_callP T.c_is_long hr (Nat.le_refl _) (takes_of rfl rfl rfl rfl) (by rfl) (pas_cons (pd_var 0) (pas_cons (pd_int) (pas_nil)))))) (pwb_or (pb_not (pb_tru (pd_callP T.c_is_number hr (Nat.le_refl _) (takes_of rfl rfl rfl rfl) (by rfl) (pas_cons (pd_sub (Room.u65 hr) (pd_var 0) (pd_int)) (pas_nil))))) (pwb_or (pb_cmp op_lt ops_lt (pd_sub (Room.u65 hr) (pd_var 0) (pd_int)) (pd_int) (nomark _)) (pwb_or1 (pb_not (pb_tru (pd_callB call_isi cas_isi (by rfl) T.g_isinstance (pas_cons (pd_sub (Room.u65 hr) (pd_var 0) (pd_int)) (pas_cons (pd_tyN (by rfl) T.g_tuple (by decide +kernel)) pas_nil)))))))))) (pbl_one (psd_ret (pd_bl))) (pbl_nil)) (pbl_one (psd_ret (pd_callB (cr_all rfl) cas_all (by rfl) T.g_all (pas_cons ((pl_lc (own := [("own", 1)]) 1000000 rfl sc_is_house_of.nd (pid_seq (pd_sub (Room.u65 hr) (pd_var 0) (pd_int))) (blkOk_by (N := n_is_house_of) (sc := defScope (top 17)) (own := [("own", 1)]) (by decide +kernel)) (fun _ _ _ _ _ => pgd_name 1 sc_is_house_of.nd) (fun _ _ _ _ _ => ptsd_nil) (fun _ _ _ _ _ => pd_callP T.c_is_step_of hr (Nat.le_refl _) takes0 (by rfl) (pas_cons (pd_var 1) (pas_cons (pd_sub (Room.u65 hr) (pd_var 0) (pd_int)) (pas_nil))))).frz) (pas_nil)))))
theorem d_sure_house (T : Tab P w K mg base k t C_Unfit) {f : Addr} {fd : FuncData} (F : Fun K "sure_house" "sure_house" (top 18) f fd) : FnOk P w K mg base (L2.CX P w) (k + 1) f fd p_sure_house (spF K 1 (mkF 3 (b_sure_house C_Unfit t))) :=
  ok_fn (N := n_sure_house) F sc_sure_house rfl fun cdv A outer s H E hr => pbl_cons (psd_set 1 sc_sure_house.nd (pd_callP T.c_tupled hr (Nat.le_refl _) (takes_of rfl rfl rfl rfl) (by rfl) (pas_cons (pd_var 0) (pas_nil)))) (pbl_cons (psd_if (PWB.pb (pwb_or (pb_not (pb_tru (pd_callP T.c_is_house_of hr (Nat.le_refl _) (takes_of rfl rfl rfl rfl) (by rfl) (pas_cons (pd_var 1) (pas_nil))))) (pwb_or (pb_cmp op_gt ops_gt (pd_sub (Room.u65 hr) (pd_var 1) (pd_int)) (T.k_MOST_ROOMS.pd (by rfl)) (nomark _)) (pwb_or1 (pb_cmp op_gt ops_gt (pd_callB call_len cas_len (by rfl) T.g_len (pas_cons (pd_sub (Room.u65 hr) (pd_var 1) (pd_int)) (pas_nil))) (T.k_MOST_STEPS.pd (by rfl)) (nomark _)))))) (pbl_one (psd_raise T.x_Unfit rfl (takes_of rfl rfl rfl rfl) (by rfl))) (pbl_nil)) (pbl_cons (psd_if (pb_tru (pd_callB (cr_any rfl) cas_any (by rfl) T.g_any (pas_cons ((pl_lc (own := [("its", 2)]) 1000000 rfl sc_sure_house.nd (pid_seq (pd_sub (Room.u65 hr) (pd_var 1) (pd_int))) (blkOk_by (N := n_sure_house) (sc := defScope (top 18)) (own := [("its", 2)]) (by decide +kernel)) (fun _ _ _ _ _ => pgd_name 2 sc_sure_house.nd) (fun _ _ _ _ _ => ptsd_nil) (fun _ _ _ _ _ => pd_cmp op_gt ops_gt (pd_callB (call_max2 rfl) cas_max2 (by rfl) T.g_max (pas_cons (pd_callB call_abs cas_abs (by rfl) T.g_abs (pas_cons (pd_sub (Room.u65 hr) (pd_sub (Room.u65 hr) (pd_var 2) (pd_int)) (pd_int)) (pas_nil))) (pas_cons (pd_callB call_abs cas_abs (by rfl) T.g_abs (pas_cons (pd_sub (Room.u65 hr) (pd_sub (Room.u65 hr) (pd_var 2) (pd_int)) (pd_int)) (pas_nil))) (pas_nil)))) (T.k_MOST_SPEED.pd (by rfl)) (nomark _))).frz) (pas_nil)))) (pbl_one (psd_raise T.x_Unfit rfl (takes_of rfl rfl rfl rfl) (by rfl))) (pbl_nil)) (pbl_one (psd_ret (pd_var 1)))))
theorem d_less_in (T : Tab P w K mg base k t C_Unfit) {f : Addr} {fd : FuncData} (F : Fun K "less_in" "less_in" (top 20) f fd) : FnOk P w K mg base (L2.CX P w) (k + 1) f fd p_less_in (spF K 3 (mkF 6 (b_less_in C_Unfit t))) :=
  ok_fn (N := n_less_in) F sc_less_in rfl fun cdv A outer s H E hr => pbl_cons (psd_set 3 sc_less_in.nd (pd_callTy call_tuple_of cas_tuple (by rfl) T.g_tuple (pas_cons ((pl_lc (own := [("near", 4), ("far", 5)]) 1000000 rfl sc_less_in.nd (pid_two (by rfl) T.g_zip (pas_cons (pd_sub (Room.u65 hr) (pd_var 0) (pd_int)) (pas_cons (pd_sub (Room.u65 hr) (pd_var 1) (pd_int)) (pas_nil)))) (blkOk_by (N := n_less_in) (sc := defScope (top 20)) (own := [("near", 4), ("far", 5)]) (by decide +kernel)) (fun _ _ _ _ _ => pgd_tup (n := 2) rfl (pgsd_cons (pgd_name 4 sc_less_in.nd) (pgsd_cons (pgd_name 5 sc_less_in.nd) (pgsd_nil)))) (fun _ _ _ _ _ => ptsd_nil) (fun _ _ _ _ _ => pd_bin op_sub ops_subI (pd_var 4) (pd_bin op_mulU ops_mulU (pd_var 2) (pd_var 5)))).frz) (pas_nil)))) (pbl_one (psd_ret (pd_tup (pas_cons (pd_callP T.c_taken hr (Nat.le_refl _) (takes_of rfl rfl rfl rfl) (by rfl) (pas_cons (pd_sub (Room.u65 hr) (pd_var 0) (pd_int)) (pas_cons (pd_callP T.c_often hr (Nat.le_refl _) (takes_of rfl rfl rfl rfl) (by rfl) (pas_cons (pd_var 2) (pas_cons (pd_sub (Room.u65 hr) (pd_var 1) (pd_int)) (pas_nil)))) (pas_nil)))) (pas_cons (pd_var 3) (pas_nil))))))
theorem d_turned_about (T : Tab P w K mg base k t C_Unfit) {f : Addr} {fd : FuncData} (F : Fun K "turned_about" "turned_about" (top 21) f fd) : FnOk P w K mg base (L2.CX P w) (k + 1) f fd p_turned_about (spF K 1 (mkF 2 (b_turned_about C_Unfit t))) :=
  ok_fn (N := n_turned_about) F sc_turned_about rfl fun cdv A outer s H E hr => pbl_one (psd_ret (pd_tup (pas_cons (pd_callP T.c_often hr (Nat.le_refl _) (takes_of rfl rfl rfl rfl) (by rfl) (pas_cons (pd_neg (pd_int)) (pas_cons (pd_sub (Room.u65 hr) (pd_var 0) (pd_int)) (pas_nil)))) (pas_cons (pd_callTy call_tuple_of cas_tuple (by rfl) T.g_tuple (pas_cons ((pl_lc (own := [("its", 1)]) 1000000 rfl sc_turned_about.nd (pid_seq (pd_sub (Room.u65 hr) (pd_var 0) (pd_int))) (blkOk_by (N := n_turned_about) (sc := defScope (top 21)) (own := [("its", 1)]) (by decide +kernel)) (fun _ _ _ _ _ => pgd_name 1 sc_turned_about.nd) (fun _ _ _ _ _ => ptsd_nil) (fun _ _ _ _ _ => pd_neg (pd_var 1))).frz) (pas_nil))) (pas_nil)))))
theorem d_divided_on (T : Tab P w K mg base k t C_Unfit) {f : Addr} {fd : FuncData} (F : Fun K "divided_on" "divided_on" (top 22) f fd) : FnOk P w K mg base (L2.CX P w) (k + 1) f fd p_divided_on (spF K 3 (mkF 3 (b_divided_on C_Unfit t))) :=
  ok_fn (N := n_divided_on) F sc_divided_on rfl fun cdv A outer s H E hr => pbl_cons (psd_while 1000000 (passes_of rfl) (pb_cmp (op_neD (Room.u64 hr)) ops_ne (pd_sub (Room.u65 hr) (pd_sub (Room.u65 hr) (pd_var 1) (pd_int)) (pd_var 2)) (pd_int) (nomark _)) (pbl_one (psd_par 0 1 rfl sc_divided_on.nd (pas_cons (pd_var 1) (pas_cons (pd_callP T.c_less_in hr (Nat.le_refl _) (takes_of rfl rfl rfl rfl) (by rfl) (pas_cons (pd_var 0) (pas_cons (pd_var 1) (pas_cons (pd_bin op_divX ops_divX (pd_sub (Room.u65 hr) (pd_sub (Room.u65 hr) (pd_var 0) (pd_int)) (pd_var 2)) (pd_sub (Room.u65 hr) (pd_sub (Room.u65 hr) (pd_var 1) (pd_int)) (pd_var 2))) (pas_nil))))) (pas_nil)))))) (pbl_one (psd_ret (pd_tup (pas_cons (pd_var 0) (pas_cons (pd_var 1) (pas_nil))))))
theorem d_lattice_in (T : Tab P w K mg base k t C_Unfit) {f : Addr} {fd : FuncData} (F : Fun K "lattice_in" "lattice_in" (top 23) f fd) : FnOk P w K mg base (L2.CX P w) (k + 1) f fd p_lattice_in (spF K 1 (mkF 5 (b_lattice_in C_Unfit t))) :=
  ok_fn (N := n_lattice_in) F sc_lattice_in rfl fun cdv A outer s H E hr => pbl_cons (psd_asg (pd_tup (pas_cons (pd_non) (pas_cons (pd_non) (pas_nil)))) (pgd_tup (n := 2) rfl (pgsd_cons (pgd_name 1 sc_lattice_in.nd) (pgsd_cons (pgd_name 2 sc_lattice_in.nd) (pgsd_nil))))) (pbl_cons (psd_for 1000000 (passes_of rfl) rfl (pid_seq (pd_var 0)) (pgd_name 3 sc_lattice_in.nd) (pbl_cons (psd_set 4 sc_lattice_in.nd (pd_var 3)) (pbl_cons (psd_if (pb_cmp (op_neD (Room.u64 hr)) ops_ne (pd_sub (Room.u65 hr) (pd_sub (Room.u65 hr) (pd_var 4) (pd_int)) (pd_int)) (pd_int) (nomark _)) (pbl_cons (psd_if (pb_cmp op_isN ops_isN (pd_var 1) (pd_non) (nomark _)) (pbl_cons (psd_set 1 sc_lattice_in.nd (pd_var 4)) (pbl_one (psd_continue))) (pbl_nil)) (pbl_one (psd_asg (pd_callP T.c_divided_on hr (Nat.le_refl _) (takes_of rfl rfl rfl rfl) (by rfl) (pas_cons (pd_var 1) (pas_cons (pd_var 4) (pas_cons (pd_int) (pas_nil))))) (pgd_tup (n := 2) rfl (pgsd_cons (pgd_name 1 sc_lattice_in.nd) (pgsd_cons (pgd_name 4 sc_lattice_in.nd) (pgsd_nil))))))) (pbl_nil)) (pbl_one (psd_if (pb_cmp (op_neD (Room.u64 hr)) ops_ne (pd_sub (Room.u65 hr) (pd_sub (Room.u65 hr) (pd_var 4) (pd_int)) (pd_int)) (pd_int) (nomark _)) (pbl_one (psd_asg (pd_ite (pb_cmp op_isN ops_isN (pd_var 2) (pd_non) (nomark _)) (pd_tup (pas_cons (pd_var 4) (pas_cons (pd_var 4) (pas_nil)))) (pd_callP T.c_divided_on hr (Nat.le_refl _) (takes_of rfl rfl rfl rfl) (by rfl) (pas_cons (pd_var 2) (pas_cons (pd_var 4) (pas_cons (pd_int) (pas_nil)))))) (pgd_tup (n := 2) rfl (pgsd_cons (pgd_name 2 sc_lattice_in.nd) (pgsd_cons (pgd_name 4 sc_lattice_in.nd) (pgsd_nil)))))) (pbl_nil)))))) (pbl_cons (psd_if (PWB.pb (pwb_and (pb_cmp op_notN ops_isntN (pd_var 1) (pd_non) (nomark _)) (pwb_and1 (pb_cmp op_lt ops_lt (pd_sub (Room.u65 hr) (pd_sub (Room.u65 hr) (pd_var 1) (pd_int)) (pd_int)) (pd_int) (nomark _))))) (pbl_one (psd_set 1 sc_lattice_in.nd (pd_callP T.c_turned_about hr (Nat.le_refl _) (takes_of rfl rfl rfl rfl) (by rfl) (pas_cons (pd_var 1) (pas_nil))))) (pbl_nil)) (pbl_cons (psd_if (PWB.pb (pwb_and (pb_cmp op_notN ops_isntN (pd_var 2) (pd_non) (nomark _)) (pwb_and1 (pb_cmp op_lt ops_lt (pd_sub (Room.u65 hr) (pd_sub (Room.u65 hr) (pd_var 2) (pd_int)) (pd_int)) (pd_int) (nomark _))))) (pbl_one (psd_set 2 sc_lattice_in.nd (pd_callP T.c_turned_about hr (Nat.le_refl _) (takes_of rfl rfl rfl rfl) (by rfl) (pas_cons (pd_var 2) (pas_nil))))) (pbl_nil)) (pbl_cons (psd_if (PWB.pb (pwb_and (pb_cmp op_notN ops_isntN (pd_var 1) (pd_non) (nomark _)) (pwb_and1 (pb_cmp op_notN ops_isntN (pd_var 2) (pd_non) (nomark _))))) (pbl_one (psd_set 1 sc_lattice_in.nd (pd_callP T.c_less_in hr (Nat.le_refl _) (takes_of rfl rfl rfl rfl) (by rfl) (pas_cons (pd_var 1) (pas_cons (pd_var 2) (pas_cons (pd_bin op_divX ops_divX (pd_sub (Room.u65 hr) (pd_sub (Room.u65 hr) (pd_var 1) (pd_int)) (pd_int)) (pd_sub (Room.u65 hr) (pd_sub (Room.u65 hr) (pd_var 2) (pd_int)) (pd_int))) (pas_nil))))))) (pbl_nil)) (pbl_one (psd_ret (pd_tup (pas_cons (pd_var 1) (pas_cons (pd_var 2) (pas_nil))))))))))
theorem d_brought_down (T : Tab P w K mg base k t C_Unfit) {f : Addr} {fd : FuncData} (F : Fun K "brought_down" "brought_down" (top 24) f fd) : FnOk P w K mg base (L2.CX P w) (k + 1) f fd p_brought_down (spF K 2 (mkF 4 (b_brought_down C_Unfit t))) :=
  ok_fn (N := n_brought_down) F sc_brought_down rfl fun cdv A outer s H E hr => pbl_cons (psd_asg (pd_var 1) (pgd_tup (n := 2) rfl (pgsd_cons (pgd_name 2 sc_brought_down.nd) (pgsd_cons (pgd_name 3 sc_brought_down.nd) (pgsd_nil))))) (pbl_cons (psd_if (pb_cmp op_notN ops_isntN (pd_var 2) (pd_non) (nomark _)) (pbl_one (psd_set 0 sc_brought_down.nd (pd_callP T.c_less_in hr (Nat.le_refl _) (takes_of rfl rfl rfl rfl) (by rfl) (pas_cons (pd_var 0) (pas_cons (pd_var 2) (pas_cons (pd_bin op_divX ops_divX (pd_sub (Room.u65 hr) (pd_sub (Room.u65 hr) (pd_var 0) (pd_int)) (pd_int)) (pd_sub (Room.u65 hr) (pd_sub (Room.u65 hr) (pd_var 2) (pd_int)) (pd_int))) (pas_nil))))))) (pbl_nil)) (pbl_one (psd_ret (pd_ite (pb_cmp op_isN ops_isN (pd_var 3) (pd_non) (nomark _)) (pd_var 0) (pd_callP T.c_less_in hr (Nat.le_refl _) (takes_of rfl rfl rfl rfl) (by rfl) (pas_cons (pd_var 0) (pas_cons (pd_var 3) (pas_cons (pd_bin op_divX ops_divX (pd_sub (Room.u65 hr) (pd_sub (Room.u65 hr) (pd_var 0) (pd_int)) (pd_int)) (pd_sub (Room.u65 hr) (pd_sub (Room.u65 hr) (pd_var 3) (pd_int)) (pd_int))) (pas_nil)))))))))
theorem d_told_in (T : Tab P w K mg base k t C_Unfit) {f : Addr} {fd : FuncData} (F : Fun K "told_in" "told_in" (top 25) f fd) : FnOk P w K mg base (L2.CX P w) (k + 1) f fd p_told_in (spF K 2 (mkF 13 (b_told_in C_Unfit t))) :=
  ok_fn (N := n_told_in) F sc_told_in rfl fun cdv A outer s H E hr => pbl_cons (psd_par 2 3 rfl sc_told_in.nd (pas_cons (pd_callB call_len cas_len (by rfl) T.g_len (pas_cons (pd_sub (Room.u65 hr) (pd_var 0) (pd_int)) (pas_nil))) (pas_cons (pd_bin op_mulU ops_mulU (pd_tup (pas_cons (pd_int) (pas_nil))) (pd_callB call_len cas_len (by rfl) T.g_len (pas_cons (pd_sub (Room.u65 hr) (pd_var 0) (pd_int)) (pas_nil)))) (pas_nil)))) (pbl_cons (psd_asg (pd_tup (pas_cons (pd_disp (ppsd_cons (pd_var 1) (pd_tup (pas_cons (pd_tup (pas_cons (pd_int) (pas_cons (pd_int) (pas_nil)))) (pas_cons (pd_var 3) (pas_nil)))) (ppsd_nil))) (pas_cons ((pl_lst (pas_cons (pd_var 1) (pas_nil))).new) (pas_cons (pd_int) (pas_nil))))) (pgd_tup (n := 3) rfl (pgsd_cons (pgd_name 4 sc_told_in.nd) (pgsd_cons (pgd_name 5 sc_told_in.nd) (pgsd_cons (pgd_name 6 sc_told_in.nd) (pgsd_nil)))))) (pbl_cons (psd_while 1000000 (passes_of rfl) (pb_cmp op_lt ops_lt (pd_var 6) (pd_callB call_len cas_len (by rfl) T.g_len (pas_cons (pd_var 5) (pas_nil))) (nomark _)) (pbl_cons (psd_set 7 sc_told_in.nd (pd_sub (Room.u65 hr) (pd_var 5) (pd_var 6))) (pbl_cons (psd_aug 6 sc_told_in.nd iop_add ops_addI (pd_int)) (pbl_one (psd_for 1000000 (passes_of rfl) rfl (pid_num (by rfl) T.g_enumerate (pas_cons (pd_sub (Room.u65 hr) (pd_var 0) (pd_int)) (pas_nil))) (pgd_tup (n := 2) rfl (pgsd_cons (pgd_name 8 sc_told_in.nd) (pgsd_cons (pgd_name 9 sc_told_in.nd) (pgsd_nil)))) (pbl_cons (psd_set 10 sc_told_in.nd (pd_callTy call_tuple_of cas_tuple (by rfl) T.g_tuple (pas_cons ((pl_lc (own := [("own", 11)]) 1000000 rfl sc_told_in.nd (pid_rng1 (by rfl) T.g_range (pas_cons (pd_var 2) (pas_nil))) (blkOk_by (N := n_told_in) (sc := defScope (top 25)) (own := [("own", 11)]) (by decide +kernel)) (fun _ _ _ _ _ => pgd_name 11 sc_told_in.nd) (fun _ _ _ _ _ => ptsd_nil) (fun _ _ _ _ _ => pd_ite (pb_cmp (op_eqD (Room.u64 hr)) ops_eq (pd_var 11) (pd_var 8) (nomark _)) (pd_int) (pd_int))).frz) (pas_nil)))) (pbl_cons (psd_if (PWB.pb (pwb_and (pb_cmp (op_eqD (Room.u64 hr)) ops_eq (pd_sub (Room.u65 hr) (pd_var 9) (pd_int)) (pd_var 7) (nomark _)) (pwb_and1 (pb_cmp (op_ninAll (Room.u65 hr)) ops_nin (pd_sub (Room.u65 hr) (pd_var 9) (pd_int)) (pd_var 4) (by with_unfolding_all rfl))))) (pbl_cons (psd_sub (Room.u1 hr) (pd_callP T.c_less_in hr (Nat.le_refl _) (takes_of rfl rfl rfl rfl) (by rfl) (pas_cons (pd_sub (Room.u65 hr) (pd_var 4) (pd_var 7)) (pas_cons (pd_callP T.c_turned_about hr (Nat.le_refl _) (takes_of rfl rfl rfl rfl) (by rfl) (pas_cons (pd_tup (pas_cons (pd_sub (Room.u65 hr) (pd_var 9) (pd_int)) (pas_cons (pd_var 10) (pas_nil)))) (pas_nil))) (pas_cons (pd_int) (pas_nil))))) (pd_var 4) (pd_sub (Room.u65 hr) (pd_var 9) (pd_int))) (pbl_one (psd_expr (pd_append (pd_var 5) (pas_cons (pd_sub (Room.u65 hr) (pd_var 9) (pd_int)) (pas_nil)))))) (pbl_nil)) (pbl_one (psd_if (PWB.pb (pwb_and (pb_cmp (op_eqD (Room.u64 hr)) ops_eq (pd_sub (Room.u65 hr) (pd_var 9) (pd_int)) (pd_var 7) (nomark _)) (pwb_and1 (pb_cmp (op_ninAll (Room.u65 hr)) ops_nin (pd_sub (Room.u65 hr) (pd_var 9) (pd_int)) (pd_var 4) (by with_unfolding_all rfl))))) (pbl_cons (psd_sub (Room.u1 hr) (pd_callP T.c_less_in hr (Nat.le_refl _) (takes_of rfl rfl rfl rfl) (by rfl) (pas_cons (pd_sub (Room.u65 hr) (pd_var 4) (pd_var 7)) (pas_cons (pd_tup (pas_cons (pd_sub (Room.u65 hr) (pd_var 9) (pd_int)) (pas_cons (pd_var 10) (pas_nil)))) (pas_cons (pd_int) (pas_nil))))) (pd_var 4) (pd_sub (Room.u65 hr) (pd_var 9) (pd_int))) (pbl_one (psd_expr (pd_append (pd_var 5) (pas_cons (pd_sub (Room.u65 hr) (pd_var 9) (pd_int)) (pas_nil)))))) (pbl_nil)))))))))) (pbl_cons (psd_set 12 sc_told_in.nd (pl_lst (pas_nil)).new) (pbl_cons (psd_for 1000000 (passes_of rfl) rfl (pid_num (by rfl) T.g_enumerate (pas_cons (pd_sub (Room.u65 hr) (pd_var 0) (pd_int)) (pas_nil))) (pgd_tup (n := 2) rfl (pgsd_cons (pgd_name 8 sc_told_in.nd) (pgsd_cons (pgd_name 9 sc_told_in.nd) (pgsd_nil)))) (pbl_one (psd_if (pb_cmp (op_inAll (Room.u65 hr)) ops_in (pd_sub (Room.u65 hr) (pd_var 9) (pd_int)) (pd_var 4) (by with_unfolding_all rfl)) (pbl_cons (psd_set 10 sc_told_in.nd (pd_callTy call_tuple_of cas_tuple (by rfl) T.g_tuple (pas_cons ((pl_lc (own := [("own", 11)]) 1000000 rfl sc_told_in.nd (pid_rng1 (by rfl) T.g_range (pas_cons (pd_var 2) (pas_nil))) (blkOk_by (N := n_told_in) (sc := defScope (top 25)) (own := [("own", 11)]) (by decide +kernel)) (fun _ _ _ _ _ => pgd_name 11 sc_told_in.nd) (fun _ _ _ _ _ => ptsd_nil) (fun _ _ _ _ _ => pd_ite (pb_cmp (op_eqD (Room.u64 hr)) ops_eq (pd_var 11) (pd_var 8) (nomark _)) (pd_int) (pd_int))).frz) (pas_nil)))) (pbl_one (psd_expr (pd_append (pd_var 12) (pas_cons (pd_callP T.c_less_in hr (Nat.le_refl _) (takes_of rfl rfl rfl rfl) (by rfl) (pas_cons (pd_callP T.c_less_in hr (Nat.le_refl _) (takes_of rfl rfl rfl rfl) (by rfl) (pas_cons (pd_sub (Room.u65 hr) (pd_var 4) (pd_sub (Room.u65 hr) (pd_var 9) (pd_int))) (pas_cons (pd_callP T.c_turned_about hr (Nat.le_refl _) (takes_of rfl rfl rfl rfl) (by rfl) (pas_cons (pd_tup (pas_cons (pd_sub (Room.u65 hr) (pd_var 9) (pd_int)) (pas_cons (pd_var 10) (pas_nil)))) (pas_nil))) (pas_cons (pd_int) (pas_nil))))) (pas_cons (pd_sub (Room.u65 hr) (pd_var 4) (pd_sub (Room.u65 hr) (pd_var 9) (pd_int))) (pas_cons (pd_int) (pas_nil))))) (pas_nil)))))) (pbl_nil)))) (pbl_one (psd_ret (pd_tup (pas_cons ((pl_lc (own := [("own", 11)]) 1000000 rfl sc_told_in.nd (pid_rng1 (by rfl) T.g_range (pas_cons (pd_sub (Room.u65 hr) (pd_var 0) (pd_int)) (pas_nil))) (blkOk_by (N := n_told_in) (sc := defScope (top 25)) (own := [("own", 11)]) (by decide +kernel)) (fun _ _ _ _ _ => pgd_name 11 sc_told_in.nd) (fun _ _ _ _ _ => ptsd_nil) (fun _ _ _ _ _ => pd_get1 (Room.u1 hr) (pd_var 4) (pd_var 11))).frz) (pas_cons (pd_callR T.c_lattice_in hr (Nat.le_refl _) (takes_of rfl rfl rfl rfl) (by rfl) (pas_cons (pd_var 12) (pas_nil))) (pas_nil))))))))))
theorem d_sure_room (T : Tab P w K mg base k t C_Unfit) {f : Addr} {fd : FuncData} (F : Fun K "sure_room" "sure_room" (top 26) f fd) : FnOk P w K mg base (L2.CX P w) (k + 1) f fd p_sure_room (spF K 2 (mkF 2 (b_sure_room C_Unfit t))) :=
  ok_fn (N := n_sure_room) F sc_sure_room rfl fun cdv A outer s H E hr => pbl_one (psd_ret (pd_callP T.c_sure_within hr (Nat.le_refl _) (takes_of rfl rfl rfl rfl) (by rfl) (pas_cons (pd_var 1) (pas_cons (pd_int) (pas_cons (pd_bin op_sub ops_subI (pd_sub (Room.u65 hr) (pd_var 0) (pd_int)) (pd_int)) (pas_nil))))))
theorem d_moves_of (T : Tab P w K mg base k t C_Unfit) {f : Addr} {fd : FuncData} (F : Fun K "moves_of" "moves_of" (top 27) f fd) : FnOk P w K mg base (L2.CX P w) (k + 1) f fd p_moves_of (spF K 1 (mkF 2 (b_moves_of C_Unfit t))) :=
  ok_fn (N := n_moves_of) F sc_moves_of rfl fun cdv A outer s H E hr => pbl_one (psd_ret (pd_callTy call_tuple_of cas_tuple (by rfl) T.g_tuple (pas_cons ((pl_lc (own := [("own", 1)]) 1000000 rfl sc_moves_of.nd (pid_seq (pd_var 0)) (blkOk_by (N := n_moves_of) (sc := defScope (top 27)) (own := [("own", 1)]) (by decide +kernel)) (fun _ _ _ _ _ => pgd_name 1 sc_moves_of.nd) (fun _ _ _ _ _ => ptsd_one (pb_cmp op_notN ops_isntN (pd_var 1) (pd_non) (nomark _))) (fun _ _ _ _ _ => pd_sub (Room.u65 hr) (pd_var 1) (pd_int))).frz) (pas_nil))))
theorem d_loop_moves (T : Tab P w K mg base k t C_Unfit) {f : Addr} {fd : FuncData} (F : Fun K "loop_moves" "loop_moves" (top 28) f fd) : FnOk P w K mg base (L2.CX P w) (k + 1) f fd p_loop_moves (spF K 2 (mkF 3 (b_loop_moves C_Unfit t))) :=
  ok_fn (N := n_loop_moves) F sc_loop_moves rfl fun cdv A outer s H E hr => pbl_cons (psd_set 2 sc_loop_moves.nd (pd_callP T.c_sure_house hr (Nat.le_refl _) (takes_of rfl rfl rfl rfl) (by rfl) (pas_cons (pd_var 0) (pas_nil)))) (pbl_one (psd_ret (pd_callP T.c_moves_of hr (Nat.le_refl _) (takes_of rfl rfl rfl rfl) (by rfl) (pas_cons (pd_sub (Room.u65 hr) (pd_callP T.c_told_in hr (Nat.le_refl _) (takes_of rfl rfl rfl rfl) (by rfl) (pas_cons (pd_var 2) (pas_cons (pd_callP T.c_sure_room hr (Nat.le_refl _) (takes_of rfl rfl rfl rfl) (by rfl) (pas_cons (pd_var 2) (pas_cons (pd_var 1) (pas_nil)))) (pas_nil)))) (pd_int)) (pas_nil)))))
theorem d_room_gaps (T : Tab P w K mg base k t C_Unfit) {f : Addr} {fd : FuncData} (F : Fun K "room_gaps" "room_gaps" (top 29) f fd) : FnOk P w K mg base (L2.CX P w) (k + 1) f fd p_room_gaps (spF K 2 (mkF 6 (b_room_gaps C_Unfit t))) :=
  ok_fn (N := n_room_gaps) F sc_room_gaps rfl fun cdv A outer s H E hr => pbl_cons (psd_set 2 sc_room_gaps.nd (pd_callP T.c_sure_house hr (Nat.le_refl _) (takes_of rfl rfl rfl rfl) (by rfl) (pas_cons (pd_var 0) (pas_nil)))) (pbl_cons (psd_asg (pd_callP T.c_told_in hr (Nat.le_refl _) (takes_of rfl rfl rfl rfl) (by rfl) (pas_cons (pd_var 2) (pas_cons (pd_callP T.c_sure_room hr (Nat.le_refl _) (takes_of rfl rfl rfl rfl) (by rfl) (pas_cons (pd_var 2) (pas_cons (pd_var 1) (pas_nil)))) (pas_nil)))) (pgd_tup (n := 2) rfl (pgsd_cons (pgd_name 3 sc_room_gaps.nd) (pgsd_cons (pgd_name 4 sc_room_gaps.nd) (pgsd_nil))))) (pbl_one (psd_ret (pd_callTy call_tuple_of cas_tuple (by rfl) T.g_tuple (pas_cons ((pl_lc (own := [("its", 5)]) 1000000 rfl sc_room_gaps.nd (pid_seq (pd_var 3)) (blkOk_by (N := n_room_gaps) (sc := defScope (top 29)) (own := [("its", 5)]) (by decide +kernel)) (fun _ _ _ _ _ => pgd_name 5 sc_room_gaps.nd) (fun _ _ _ _ _ => ptsd_nil) (fun _ _ _ _ _ => pd_ite (pb_cmp op_isN ops_isN (pd_var 5) (pd_non) (nomark _)) (pd_non) (pd_sub (Room.u65 hr) (pd_callP T.c_brought_down hr (Nat.le_refl _) takes0 (by rfl) (pas_cons (pd_var 5) (pas_cons (pd_var 4) (pas_nil)))) (pd_int)))).frz) (pas_nil))))))
theorem d__law_box (T : Tab P w K mg base k t C_Unfit) {f : Addr} {fd : FuncData} (F : Fun K "_law_box" "_law_box" (top 31) f fd) : FnOk P w K mg base (L2.CX P w) (k + 1) f fd p__law_box (spF K 2 (mkF 3 (b__law_box C_Unfit t))) :=
  ok_fn (N := n__law_box) F sc__law_box rfl fun cdv A outer s H E hr => pbl_cons (psd_set 2 sc__law_box.nd (pd_ite (pb_cmp op_lt ops_lt (pd_var 1) (pd_callB call_len cas_len (by rfl) T.g_len (pas_cons (pd_var 0) (pas_nil))) (nomark _)) (pd_sub (Room.u65 hr) (pd_var 0) (pd_var 1)) (pd_int))) (pbl_one (psd_ret (pl_lst (pas_cons (pd_bin op_mulU ops_mulU (pd_callB call_abs cas_abs (by rfl) T.g_abs (pas_cons (pd_var 2) (pas_nil))) (pd_callTy call_int1 cas_int (by rfl) T.g_int (pas_cons (pd_cmp op_ge ops_ge (pd_callB call_abs cas_abs (by rfl) T.g_abs (pas_cons (pd_var 2) (pas_nil))) (pd_bin op_pow ops_powI (pd_int) (pd_int)) (nomark _)) (pas_nil)))) (pas_cons (pd_bin op_addU ops_addU (pd_bin op_addU ops_addU (pd_bin op_modN ops_modI (pd_callTy call_int1 cas_int (by rfl) T.g_int (pas_cons (pd_var 2) (pas_nil))) (pd_int)) (pd_bin op_mulU ops_mulU (pd_int) (pd_var 1))) (pd_int)) (pas_cons (pd_int) (pas_nil))))).new))
theorem d__law_take (T : Tab P w K mg base k t C_Unfit) {f : Addr} {fd : FuncData} (F : Fun K "_law_take" "_law_take" (top 32) f fd) : FnOk P w K mg base (L2.CX P w) (k + 1) f fd p__law_take (spF K 2 (mkF 6 (b__law_take C_Unfit t))) :=
  ok_fn (N := n__law_take) F sc__law_take rfl fun cdv A outer s H E hr => pbl_cons (psd_if (pb_cmp op_gt ops_gt (pd_sub (Room.u65 hr) (pd_var 0) (pd_int)) (pd_int) (nomark _)) (pbl_cons (psd_set 2 sc__law_take.nd (pd_bin op_modN ops_modI (pd_callTy call_int1 cas_int (by rfl) T.g_int (pas_cons (pd_sub (Room.u65 hr) (pd_var 0) (pd_int)) (pas_nil))) (pd_var 1))) (pbl_cons (psd_sub (Room.u1 hr) (pd_bin op_divX ops_divX (pd_sub (Room.u65 hr) (pd_var 0) (pd_int)) (pd_var 1)) (pd_var 0) (pd_int)) (pbl_one (psd_ret (pd_var 2))))) (pbl_nil)) (pbl_cons (psd_sub (Room.u1 hr) (pd_bin op_addU ops_addU (pd_sub (Room.u65 hr) (pd_var 0) (pd_int)) (pd_int)) (pd_var 0) (pd_int)) (pbl_cons (psd_set 3 sc__law_take.nd (pd_bin op_modN ops_modI (pd_callTy call_int1 cas_int (by rfl) T.g_int (pas_cons (pd_bin op_mulU ops_mulU (pd_bin op_addU ops_addU (pd_sub (Room.u65 hr) (pd_var 0) (pd_int)) (pd_bin op_mulU ops_mulU (pd_int) (pd_sub (Room.u65 hr) (pd_var 0) (pd_int)))) (pd_bin op_addU ops_addU (pd_int) (pd_sub (Room.u65 hr) (pd_var 0) (pd_int)))) (pas_nil))) (pd_int))) (pbl_cons (psd_set 4 sc__law_take.nd (pd_bin op_addU ops_addU (pd_bin op_modN ops_modI (pd_callTy call_int1 cas_int (by rfl) T.g_int (pas_cons (pd_var 3) (pas_nil))) (pd_int)) (pd_int))) (pbl_cons (psd_set 5 sc__law_take.nd (pd_bin op_modN ops_modI (pd_callTy call_int1 cas_int (by rfl) T.g_int (pas_cons (pd_bin op_mulU ops_mulU (pd_bin op_addU ops_addU (pd_bin op_addU ops_addU (pd_var 3) (pd_sub (Room.u65 hr) (pd_var 0) (pd_int))) (pd_bin op_divX ops_divX (pd_sub (Room.u65 hr) (pd_var 0) (pd_int)) (pd_int))) (pd_var 4)) (pas_nil))) (pd_int))) (pbl_one (psd_ret (pd_bin op_modN ops_modI (pd_callTy call_int1 cas_int (by rfl) T.g_int (pas_cons (pd_bin op_divX ops_divX (pd_bin op_modN ops_modI (pd_callTy call_int1 cas_int (by rfl) T.g_int (pas_cons (pd_bin op_addU ops_addU (pd_bin op_mulU ops_mulU (pd_var 5) (pd_int)) (pd_var 3)) (pas_nil))) (pd_int)) (pd_int)) (pas_nil))) (pd_var 1))))))))
theorem d__law_cells (T : Tab P w K mg base k t C_Unfit) {f : Addr} {fd : FuncData} (F : Fun K "_law_cells" "_law_cells" (top 33) f fd) : FnOk P w K mg base (L2.CX P w) (k + 1) f fd p__law_cells (spF K 2 (mkF 6 (b__law_cells C_Unfit t))) :=
  ok_fn (N := n__law_cells) F sc__law_cells rfl fun cdv A outer s H E hr => pbl_cons (psd_set 2 sc__law_cells.nd (pd_orV ((pl_callTy call_list_of cal_list (by rfl) T.g_list (pas_cons (pd_cut (pd_var 0) (pod_none) (pod_some (pd_var 1))) (pas_nil))).new) (pd_one ((pl_lst (pas_cons (pd_int) (pas_nil))).new)))) (pbl_cons (psd_for 1000000 (passes_of rfl) rfl (pid_num (by rfl) T.g_enumerate (pas_cons (pd_cut (pd_var 0) (pod_some (pd_var 1)) (pod_some (pd_int))) (pas_nil))) (pgd_tup (n := 2) rfl (pgsd_cons (pgd_name 3 sc__law_cells.nd) (pgsd_cons (pgd_name 4 sc__law_cells.nd) (pgsd_nil)))) (pbl_cons (psd_set 5 sc__law_cells.nd (pd_bin op_modN ops_modI (pd_callTy call_int1 cas_int (by rfl) T.g_int (pas_cons (pd_var 3) (pas_nil))) (pd_var 1))) (pbl_one (psd_sub (Room.u1 hr) (pd_bin op_addU ops_addU (pd_sub (Room.u65 hr) (pd_var 2) (pd_var 5)) (pd_bin op_mulU ops_mulU (pd_var 4) (pd_bin op_addU ops_addU (pd_var 3) (pd_int)))) (pd_var 2) (pd_var 5))))) (pbl_one (psd_ret (pd_var 2))))
theorem d__law_of (T : Tab P w K mg base k t C_Unfit) {f : Addr} {fd : FuncData} (F : Fun K "_law_of" "_law_of" (top 34) f fd) : FnOk P w K mg base (L2.CX P w) (k + 1) f fd p__law_of (spF K 2 (mkF 2 (b__law_of C_Unfit t))) :=
  ok_fn (N := n__law_of) F sc__law_of rfl fun cdv A outer s H E hr => pbl_one (psd_ret (pd_sub (Room.u65 hr) (pd_var 1) (pd_call T.c__law_take hr (Nat.le_refl _) (takes_of rfl rfl rfl rfl) (by rfl) (pas_cons (pd_var 0) (pas_cons (pd_callB call_len cas_len (by rfl) T.g_len (pas_cons (pd_var 1) (pas_nil))) (pas_nil))))))
theorem d__law_mixed (T : Tab P w K mg base k t C_Unfit) {f : Addr} {fd : FuncData} (F : Fun K "_law_mixed" "_law_mixed" (top 35) f fd) : FnOk P w K mg base (L2.CX P w) (k + 1) f fd p__law_mixed (spF K 2 (mkF 4 (b__law_mixed C_Unfit t))) :=
  ok_fn (N := n__law_mixed) F sc__law_mixed rfl fun cdv A outer s H E hr => pbl_cons (psd_if (pb_not (pb_tru (pd_isiT (by rfl) T.g_isinstance (pd_var 1) (pa_tys_cons (pe_tyN (by rfl) T.g_list (by decide +kernel)) (pa_tys_cons (pe_tyN (by rfl) T.g_tuple (by decide +kernel)) (pa_tys_nil)))))) (pbl_one (psd_ret (pd_var 1))) (pbl_nil)) (pbl_cons (psd_setLcF (own := [("bit", 3)]) 2 1000000 rfl sc__law_mixed.nd (pid_seq (pd_var 1)) (blkOk_by (N := n__law_mixed) (sc := defScope (top 35)) (own := [("bit", 3)]) (by decide +kernel)) (fun _ _ _ _ _ => pgd_name 3 sc__law_mixed.nd) (fun _ _ _ _ _ => ptsd_nil) (fun _ _ _ _ _ => pd_call T.c__law_mixed hr (Nat.le_refl _) takes0 (by rfl) (pas_cons (pd_var 0) (pas_cons (pd_var 3) (pas_nil)))) (sw_true rfl rfl rfl (by decide +kernel))) (pbl_one (psd_ret (pd_ite (pb_cmp (op_eqD (Room.u64 hr)) ops_eq (pd_call T.c__law_take hr (Nat.le_refl _) (takes_of rfl rfl rfl rfl) (by rfl) (pas_cons (pd_var 0) (pas_cons (pd_int) (pas_nil)))) (pd_int) (nomark _)) (pd_var 2) (pd_callTy call_tuple_of cas_tuple (by rfl) T.g_tuple (pas_cons (pd_var 2) (pas_nil)))))))
theorem d__law_same (T : Tab P w K mg base k t C_Unfit) {f : Addr} {fd : FuncData} (F : Fun K "_law_same" "_law_same" (top 36) f fd) : FnOk P w K mg base (L2.CX P w) (k + 1) f fd p__law_same (spF K 2 (mkF 4 (b__law_same C_Unfit t))) :=
  ok_fn (N := n__law_same) F sc__law_same rfl fun cdv A outer s H E hr => pbl_cons (psd_if (pb_tru (pd_isiT (by rfl) T.g_isinstance (pd_var 1) (pa_tys_cons (pe_tyN (by rfl) T.g_list (by decide +kernel)) (pa_tys_cons (pe_tyN (by rfl) T.g_tuple (by decide +kernel)) (pa_tys_nil))))) (pbl_cons (psd_if (PWB.pb (pwb_or (pb_cmp (op_neD (Room.u64 hr)) ops_ne (pd_callB call_isi cas_isi (by rfl) T.g_isinstance (pas_cons (pd_var 0) (pas_cons (pd_tyN (by rfl) T.g_list (by decide +kernel)) pas_nil))) (pd_callB call_isi cas_isi (by rfl) T.g_isinstance (pas_cons (pd_var 1) (pas_cons (pd_tyN (by rfl) T.g_list (by decide +kernel)) pas_nil))) (nomark _)) (pwb_or1 (pb_cmp (op_neD (Room.u64 hr)) ops_ne (pd_callB call_isi cas_isi (by rfl) T.g_isinstance (pas_cons (pd_var 0) (pas_cons (pd_tyN (by rfl) T.g_tuple (by decide +kernel)) pas_nil))) (pd_callB call_isi cas_isi (by rfl) T.g_isinstance (pas_cons (pd_var 1) (pas_cons (pd_tyN (by rfl) T.g_tuple (by decide +kernel)) pas_nil))) (nomark _))))) (pbl_one (psd_ret (pd_bl))) (pbl_nil)) (pbl_one (psd_ret (pd_andV (pd_cmp (op_eqD (Room.u64 hr)) ops_eq (pd_callB call_len cas_len (by rfl) T.g_len (pas_cons (pd_var 0) (pas_nil))) (pd_callB call_len cas_len (by rfl) T.g_len (pas_cons (pd_var 1) (pas_nil))) (nomark _)) (pd_one (pd_callB (cr_all rfl) cas_all (by rfl) T.g_all (pas_cons ((pl_lc (own := [("mine", 2), ("its", 3)]) 1000000 rfl sc__law_same.nd (pid_two (by rfl) T.g_zip (pas_cons (pd_var 0) (pas_cons (pd_var 1) (pas_nil)))) (blkOk_by (N := n__law_same) (sc := defScope (top 36)) (own := [("mine", 2), ("its", 3)]) (by decide +kernel)) (fun _ _ _ _ _ => pgd_tup (n := 2) rfl (pgsd_cons (pgd_name 2 sc__law_same.nd) (pgsd_cons (pgd_name 3 sc__law_same.nd) (pgsd_nil)))) (fun _ _ _ _ _ => ptsd_nil) (fun _ _ _ _ _ => pd_callP T.c__law_same hr (Nat.le_refl _) takes0 (by rfl) (pas_cons (pd_var 2) (pas_cons (pd_var 3) (pas_nil))))).frz) (pas_nil)))))))) (pbl_nil)) (pbl_cons (psd_if (pb_cmp op_isN ops_isN (pd_var 1) (pd_non) (nomark _)) (pbl_one (psd_ret (pd_cmp op_isN ops_isN (pd_var 0) (pd_non) (nomark _)))) (pbl_nil)) (pbl_cons (psd_if (pb_tru (pd_isiT (by rfl) T.g_isinstance (pd_var 1) (pa_tys_cons (pe_tyN (by rfl) T.g_bool (by decide +kernel)) (pa_tys_cons (pe_tyN (by rfl) T.g_str (by decide +kernel)) (pa_tys_nil))))) (pbl_one (psd_ret (pd_andV (pd_cmp (op_eqD (Room.u64 hr)) ops_eq (pd_callB call_isi cas_isi (by rfl) T.g_isinstance (pas_cons (pd_var 0) (pas_cons (pd_tyN (by rfl) T.g_bool (by decide +kernel)) pas_nil))) (pd_callB call_isi cas_isi (by rfl) T.g_isinstance (pas_cons (pd_var 1) (pas_cons (pd_tyN (by rfl) T.g_bool (by decide +kernel)) pas_nil))) (nomark _)) (pd_andV (pd_cmp (op_eqD (Room.u64 hr)) ops_eq (pd_callB call_isi cas_isi (by rfl) T.g_isinstance (pas_cons (pd_var 0) (pas_cons (pd_tyN (by rfl) T.g_str (by decide +kernel)) pas_nil))) (pd_callB call_isi cas_isi (by rfl) T.g_isinstance (pas_cons (pd_var 1) (pas_cons (pd_tyN (by rfl) T.g_str (by decide +kernel)) pas_nil))) (nomark _)) (pd_one (pd_cmp (op_eqD (Room.u64 hr)) ops_eq (pd_var 0) (pd_var 1) (nomark _))))))) (pbl_nil)) (pbl_one (psd_ret (pd_andV (pd_callB call_isi cas_isi (by rfl) T.g_isinstance (pas_cons (pd_var 0) (pas_cons (pd_tyN (by rfl) T.g_int (by decide +kernel)) pas_nil))) (pd_andV (pd_notV (pd_callB call_isi cas_isi (by rfl) T.g_isinstance (pas_cons (pd_var 0) (pas_cons (pd_tyN (by rfl) T.g_bool (by decide +kernel)) pas_nil)))) (pd_one (pd_cmp (op_eqD (Room.u64 hr)) ops_eq (pd_var 0) (pd_var 1) (nomark _)))))))))
theorem d__law_plus (T : Tab P w K mg base k t C_Unfit) {f : Addr} {fd : FuncData} (F : Fun K "_law_plus" "_law_plus" (top 37) f fd) : FnOk P w K mg base (L2.CX P w) (k + 1) f fd p__law_plus (spF K 2 (mkF 2 (b__law_plus C_Unfit t))) :=
  ok_fn (N := n__law_plus) F sc__law_plus rfl fun cdv A outer s H E hr => pbl_one (psd_ret (pd_tup (pas_cons (pd_bin op_addU ops_addU (pd_sub (Room.u65 hr) (pd_var 0) (pd_int)) (pd_sub (Room.u65 hr) (pd_var 1) (pd_int))) (pas_cons (pd_bin op_addU ops_addU (pd_sub (Room.u65 hr) (pd_var 0) (pd_int)) (pd_sub (Room.u65 hr) (pd_var 1) (pd_int))) (pas_nil)))))
theorem d__law_often (T : Tab P w K mg base k t C_Unfit) {f : Addr} {fd : FuncData} (F : Fun K "_law_often" "_law_often" (top 38) f fd) : FnOk P w K mg base (L2.CX P w) (k + 1) f fd p__law_often (spF K 2 (mkF 2 (b__law_often C_Unfit t))) :=
  ok_fn (N := n__law_often) F sc__law_often rfl fun cdv A outer s H E hr => pbl_one (psd_ret (pd_tup (pas_cons (pd_bin op_mulU ops_mulU (pd_var 0) (pd_sub (Room.u65 hr) (pd_var 1) (pd_int))) (pas_cons (pd_bin op_mulU ops_mulU (pd_var 0) (pd_sub (Room.u65 hr) (pd_var 1) (pd_int))) (pas_nil)))))
theorem d__law_move (T : Tab P w K mg base k t C_Unfit) {f : Addr} {fd : FuncData} (F : Fun K "_law_move" "_law_move" (top 39) f fd) : FnOk P w K mg base (L2.CX P w) (k + 1) f fd p__law_move (spF K 2 (mkF 3 (b__law_move C_Unfit t))) :=
  ok_fn (N := n__law_move) F sc__law_move rfl fun cdv A outer s H E hr => pbl_cons (psd_set 2 sc__law_move.nd (pd_bin op_addU ops_addU (pd_int) (pd_call T.c__law_take hr (Nat.le_refl _) (takes_of rfl rfl rfl rfl) (by rfl) (pas_cons (pd_var 0) (pas_cons (pd_var 1) (pas_nil)))))) (pbl_one (psd_ret (pd_tup (pas_cons (pd_bin op_sub ops_subI (pd_call T.c__law_take hr (Nat.le_refl _) (takes_of rfl rfl rfl rfl) (by rfl) (pas_cons (pd_var 0) (pas_cons (pd_bin op_addU ops_addU (pd_bin op_mulU ops_mulU (pd_int) (pd_var 2)) (pd_int)) (pas_nil)))) (pd_var 2)) (pas_cons (pd_bin op_sub ops_subI (pd_call T.c__law_take hr (Nat.le_refl _) (takes_of rfl rfl rfl rfl) (by rfl) (pas_cons (pd_var 0) (pas_cons (pd_bin op_addU ops_addU (pd_bin op_mulU ops_mulU (pd_int) (pd_var 2)) (pd_int)) (pas_nil)))) (pd_var 2)) (pas_nil))))))
theorem d__law_house (T : Tab P w K mg base k t C_Unfit) {f : Addr} {fd : FuncData} (F : Fun K "_law_house" "_law_house" (top 40) f fd) : FnOk P w K mg base (L2.CX P w) (k + 1) f fd p__law_house (spF K 4 (mkF 7 (b__law_house C_Unfit t))) :=
  ok_fn (N := n__law_house) F sc__law_house rfl fun cdv A outer s H E hr => pbl_cons (psd_set 4 sc__law_house.nd (pd_bin op_addU ops_addU (pd_int) (pd_call T.c__law_take hr (Nat.le_refl _) (takes_of rfl rfl rfl rfl) (by rfl) (pas_cons (pd_var 0) (pas_cons (pd_var 1) (pas_nil)))))) (pbl_cons (psd_set 5 sc__law_house.nd (pl_lst (pas_nil)).new) (pbl_cons (psd_for 1000000 (passes_of rfl) rfl (pid_rng1 (by rfl) T.g_range (pas_cons (pd_call T.c__law_take hr (Nat.le_refl _) (takes_of rfl rfl rfl rfl) (by rfl) (pas_cons (pd_var 0) (pas_cons (pd_bin op_addU ops_addU (pd_var 2) (pd_int)) (pas_nil)))) (pas_nil))) (pgd_name 6 sc__law_house.nd) (pbl_one (psd_expr (pd_append (pd_var 5) (pas_cons (pd_tup (pas_cons (pd_call T.c__law_take hr (Nat.le_refl _) (takes_of rfl rfl rfl rfl) (by rfl) (pas_cons (pd_var 0) (pas_cons (pd_var 4) (pas_nil)))) (pas_cons (pd_call T.c__law_move hr (Nat.le_refl _) (takes_of rfl rfl rfl rfl) (by rfl) (pas_cons (pd_var 0) (pas_cons (pd_var 3) (pas_nil)))) (pas_cons (pd_call T.c__law_take hr (Nat.le_refl _) (takes_of rfl rfl rfl rfl) (by rfl) (pas_cons (pd_var 0) (pas_cons (pd_var 4) (pas_nil)))) (pas_nil))))) (pas_nil)))))) (pbl_one (psd_ret (pd_tup (pas_cons (pd_var 4) (pas_cons (pd_callTy call_tuple_of cas_tuple (by rfl) T.g_tuple (pas_cons (pd_var 5) (pas_nil))) (pas_nil))))))))
theorem d__law_divisor (T : Tab P w K mg base k t C_Unfit) {f : Addr} {fd : FuncData} (F : Fun K "_law_divisor" "_law_divisor" (top 41) f fd) : FnOk P w K mg base (L2.CX P w) (k + 1) f fd p__law_divisor (spF K 2 (mkF 5 (b__law_divisor C_Unfit t))) :=
  ok_fn (N := n__law_divisor) F sc__law_divisor rfl fun cdv A outer s H E hr => pbl_cons (psd_par 2 3 rfl sc__law_divisor.nd (pas_cons (pd_callB call_abs cas_abs (by rfl) T.g_abs (pas_cons (pd_var 0) (pas_nil))) (pas_cons (pd_callB call_abs cas_abs (by rfl) T.g_abs (pas_cons (pd_var 1) (pas_nil))) (pas_nil)))) (pbl_cons (psd_for 1000000 (passes_of rfl) rfl (pid_rng1 (by rfl) T.g_range (pas_cons (pd_int) (pas_nil))) (pgd_name 4 sc__law_divisor.nd) (pbl_cons (psd_if (pb_cmp (op_eqD (Room.u64 hr)) ops_eq (pd_var 3) (pd_int) (nomark _)) (pbl_one (psd_ret (pd_var 2))) (pbl_nil)) (pbl_one (psd_par 2 3 rfl sc__law_divisor.nd (pas_cons (pd_var 3) (pas_cons (pd_bin op_sub ops_subI (pd_var 2) (pd_bin op_mulU ops_mulU (pd_bin op_divX ops_divX (pd_var 2) (pd_var 3)) (pd_var 3))) (pas_nil))))))) (pbl_one (psd_ret (pd_var 2))))
theorem d__law_gaps (T : Tab P w K mg base k t C_Unfit) {f : Addr} {fd : FuncData} (F : Fun K "_law_gaps" "_law_gaps" (top 42) f fd) : FnOk P w K mg base (L2.CX P w) (k + 1) f fd p__law_gaps (spF K 2 (mkF 7 (b__law_gaps C_Unfit t))) :=
  ok_fn (N := n__law_gaps) F sc__law_gaps rfl fun cdv A outer s H E hr => pbl_cons (psd_set 2 sc__law_gaps.nd (pd_disp (ppsd_cons (pd_var 1) (pd_tup (pas_cons (pd_int) (pas_cons (pd_int) (pas_nil)))) (ppsd_nil)))) (pbl_cons (psd_for 1000000 (passes_of rfl) rfl (pid_rng1 (by rfl) T.g_range (pas_cons (pd_sub (Room.u65 hr) (pd_var 0) (pd_int)) (pas_nil))) (pgd_name 3 sc__law_gaps.nd) (pbl_one (psd_for 1000000 (passes_of rfl) rfl (pid_seq (pd_sub (Room.u65 hr) (pd_var 0) (pd_int))) (pgd_tup (n := 3) rfl (pgsd_cons (pgd_name 4 sc__law_gaps.nd) (pgsd_cons (pgd_name 5 sc__law_gaps.nd) (pgsd_cons (pgd_name 6 sc__law_gaps.nd) (pgsd_nil))))) (pbl_cons (psd_if (PWB.pb (pwb_and (pb_cmp (op_inAll (Room.u65 hr)) ops_in (pd_var 4) (pd_var 2) (by with_unfolding_all rfl)) (pwb_and1 (pb_cmp (op_ninAll (Room.u65 hr)) ops_nin (pd_var 6) (pd_var 2) (by with_unfolding_all rfl))))) (pbl_one (psd_sub (Room.u1 hr) (pd_callP T.c__law_plus hr (Nat.le_refl _) (takes_of rfl rfl rfl rfl) (by rfl) (pas_cons (pd_sub (Room.u65 hr) (pd_var 2) (pd_var 4)) (pas_cons (pd_var 5) (pas_nil)))) (pd_var 2) (pd_var 6))) (pbl_nil)) (pbl_one (psd_if (PWB.pb (pwb_and (pb_cmp (op_inAll (Room.u65 hr)) ops_in (pd_var 6) (pd_var 2) (by with_unfolding_all rfl)) (pwb_and1 (pb_cmp (op_ninAll (Room.u65 hr)) ops_nin (pd_var 4) (pd_var 2) (by with_unfolding_all rfl))))) (pbl_one (psd_sub (Room.u1 hr) (pd_callP T.c__law_plus hr (Nat.le_refl _) (takes_of rfl rfl rfl rfl) (by rfl) (pas_cons (pd_sub (Room.u65 hr) (pd_var 2) (pd_var 6)) (pas_cons (pd_callP T.c__law_often hr (Nat.le_refl _) (takes_of rfl rfl rfl rfl) (by rfl) (pas_cons (pd_neg (pd_int)) (pas_cons (pd_var 5) (pas_nil)))) (pas_nil)))) (pd_var 2) (pd_var 4))) (pbl_nil))))))) (pbl_one (psd_ret (pd_var 2))))
theorem d__law_loops (T : Tab P w K mg base k t C_Unfit) {f : Addr} {fd : FuncData} (F : Fun K "_law_loops" "_law_loops" (top 43) f fd) : FnOk P w K mg base (L2.CX P w) (k + 1) f fd p__law_loops (spF K 2 (mkF 6 (b__law_loops C_Unfit t))) :=
  ok_fn (N := n__law_loops) F sc__law_loops rfl fun cdv A outer s H E hr => pbl_cons (psd_set 2 sc__law_loops.nd (pd_call T.c__law_gaps hr (Nat.le_refl _) (takes_of rfl rfl rfl rfl) (by rfl) (pas_cons (pd_var 0) (pas_cons (pd_var 1) (pas_nil))))) (pbl_one (psd_ret ((pl_lc (own := [("near", 3), ("move_so", 4), ("far", 5)]) 1000000 rfl sc__law_loops.nd (pid_seq (pd_sub (Room.u65 hr) (pd_var 0) (pd_int))) (blkOk_by (N := n__law_loops) (sc := defScope (top 43)) (own := [("near", 3), ("move_so", 4), ("far", 5)]) (by decide +kernel)) (fun _ _ _ _ _ => pgd_tup (n := 3) rfl (pgsd_cons (pgd_name 3 sc__law_loops.nd) (pgsd_cons (pgd_name 4 sc__law_loops.nd) (pgsd_cons (pgd_name 5 sc__law_loops.nd) (pgsd_nil))))) (fun _ _ _ _ _ => ptsd_one (pb_cmp (op_inAll (Room.u65 hr)) ops_in (pd_var 3) (pd_var 2) (by with_unfolding_all rfl))) (fun _ _ _ _ _ => pd_callP T.c__law_plus hr (Nat.le_refl _) takes0 (by rfl) (pas_cons (pd_callP T.c__law_plus hr (Nat.le_refl _) takes0 (by rfl) (pas_cons (pd_sub (Room.u65 hr) (pd_var 2) (pd_var 3)) (pas_cons (pd_var 4) (pas_nil)))) (pas_cons (pd_callP T.c__law_often hr (Nat.le_refl _) takes0 (by rfl) (pas_cons (pd_neg (pd_int)) (pas_cons (pd_sub (Room.u65 hr) (pd_var 2) (pd_var 5)) (pas_nil)))) (pas_nil))))).frz)))
theorem d__law_minors (T : Tab P w K mg base k t C_Unfit) {f : Addr} {fd : FuncData} (F : Fun K "_law_minors" "_law_minors" (top 44) f fd) : FnOk P w K mg base (L2.CX P w) (k + 1) f fd p__law_minors (spF K 1 (mkF 6 (b__law_minors C_Unfit t))) :=
  ok_fn (N := n__law_minors) F sc__law_minors rfl fun cdv A outer s H E hr => pbl_cons (psd_asg (pd_tup (pas_cons (pd_int) (pas_cons (pd_int) (pas_nil)))) (pgd_tup (n := 2) rfl (pgsd_cons (pgd_name 1 sc__law_minors.nd) (pgsd_cons (pgd_name 2 sc__law_minors.nd) (pgsd_nil))))) (pbl_cons (psd_for 1000000 (passes_of rfl) rfl (pid_num (by rfl) T.g_enumerate (pas_cons (pd_var 0) (pas_nil))) (pgd_tup (n := 2) rfl (pgsd_cons (pgd_name 3 sc__law_minors.nd) (pgsd_cons (pgd_name 4 sc__law_minors.nd) (pgsd_nil)))) (pbl_cons (psd_set 1 sc__law_minors.nd (pd_callP T.c__law_divisor hr (Nat.le_refl _) (takes_of rfl rfl rfl rfl) (by rfl) (pas_cons (pd_callP T.c__law_divisor hr (Nat.le_refl _) (takes_of rfl rfl rfl rfl) (by rfl) (pas_cons (pd_var 1) (pas_cons (pd_sub (Room.u65 hr) (pd_var 4) (pd_int)) (pas_nil)))) (pas_cons (pd_sub (Room.u65 hr) (pd_var 4) (pd_int)) (pas_nil))))) (pbl_one (psd_for 1000000 (passes_of rfl) rfl (pid_seq (pd_cut (pd_var 0) (pod_some (pd_bin op_addU ops_addU (pd_var 3) (pd_int))) (pod_none))) (pgd_name 5 sc__law_minors.nd) (pbl_one (psd_set 2 sc__law_minors.nd (pd_callP T.c__law_divisor hr (Nat.le_refl _) (takes_of rfl rfl rfl rfl) (by rfl) (pas_cons (pd_var 2) (pas_cons (pd_bin op_sub ops_subI (pd_bin op_mulU ops_mulU (pd_sub (Room.u65 hr) (pd_var 4) (pd_int)) (pd_sub (Room.u65 hr) (pd_var 5) (pd_int))) (pd_bin op_mulU ops_mulU (pd_sub (Room.u65 hr) (pd_var 4) (pd_int)) (pd_sub (Room.u65 hr) (pd_var 5) (pd_int)))) (pas_nil)))))))))) (pbl_one (psd_ret (pd_tup (pas_cons (pd_var 1) (pas_cons (pd_var 2) (pas_nil)))))))
theorem d__law_is_sum (T : Tab P w K mg base k t C_Unfit) {f : Addr} {fd : FuncData} (F : Fun K "_law_is_sum" "_law_is_sum" (top 45) f fd) : FnOk P w K mg base (L2.CX P w) (k + 1) f fd p__law_is_sum (spF K 2 (mkF 4 (b__law_is_sum C_Unfit t))) :=
  ok_fn (N := n__law_is_sum) F sc__law_is_sum rfl fun cdv A outer s H E hr => pbl_cons (psd_par 2 3 rfl sc__law_is_sum.nd (pas_cons (pd_callP T.c__law_minors hr (Nat.le_refl _) (takes_of rfl rfl rfl rfl) (by rfl) (pas_cons (pd_var 0) (pas_nil))) (pas_cons (pd_callP T.c__law_minors hr (Nat.le_refl _) (takes_of rfl rfl rfl rfl) (by rfl) (pas_cons (pd_bin op_addU ops_addU (pd_var 0) ((pl_lst (pas_cons (pd_var 1) (pas_nil))).frz)) (pas_nil))) (pas_nil)))) (pbl_one (psd_ret (pd_ite (PWB.pb (pwb_and (pb_cmp (op_eqD (Room.u64 hr)) ops_eq (pd_sub (Room.u65 hr) (pd_var 2) (pd_int)) (pd_int) (nomark _)) (pwb_and1 (pb_cmp (op_eqD (Room.u64 hr)) ops_eq (pd_sub (Room.u65 hr) (pd_var 3) (pd_int)) (pd_int) (nomark _))))) (pd_cmp (op_eqD (Room.u64 hr)) ops_eq (pd_var 2) (pd_var 3) (nomark _)) (pd_cmp (op_eqD (Room.u64 hr)) ops_eq (pd_sub (Room.u65 hr) (pd_var 2) (pd_int)) (pd_sub (Room.u65 hr) (pd_var 3) (pd_int)) (nomark _)))))
theorem d__law_is_down (T : Tab P w K mg base k t C_Unfit) {f : Addr} {fd : FuncData} (F : Fun K "_law_is_down" "_law_is_down" (top 46) f fd) : FnOk P w K mg base (L2.CX P w) (k + 1) f fd p__law_is_down (spF K 1 (mkF 2 (b__law_is_down C_Unfit t))) :=
  ok_fn (N := n__law_is_down) F sc__law_is_down rfl fun cdv A outer s H E hr => pbl_cons (psd_if (PWB.pb (pwb_or (pb_cmp op_gt ops_gt (pd_callB call_len cas_len (by rfl) T.g_len (pas_cons (pd_var 0) (pas_nil))) (pd_int) (nomark _)) (pwb_or1 (pb_cmp (op_neD (Room.u64 hr)) ops_ne ((pl_lc (own := [("own", 1)]) 1000000 rfl sc__law_is_down.nd (pid_seq (pd_var 0)) (blkOk_by (N := n__law_is_down) (sc := defScope (top 46)) (own := [("own", 1)]) (by decide +kernel)) (fun _ _ _ _ _ => pgd_name 1 sc__law_is_down.nd) (fun _ _ _ _ _ => ptsd_one (PWB.pb (pwb_or (PWB.pb (pwb_and (pb_cmp (op_eqD (Room.u64 hr)) ops_eq (pd_sub (Room.u65 hr) (pd_var 1) (pd_int)) (pd_int) (nomark _)) (pwb_and1 (pb_cmp op_lt ops_lt (pd_sub (Room.u65 hr) (pd_var 1) (pd_int)) (pd_int) (nomark _))))) (pwb_or1 (pb_cmp op_lt ops_lt (pd_sub (Room.u65 hr) (pd_var 1) (pd_int)) (pd_int) (nomark _)))))) (fun _ _ _ _ _ => pd_var 1)).frz) ((pl_lst (pas_nil)).frz) (nomark _))))) (pbl_one (psd_ret (pd_bl))) (pbl_nil)) (pbl_one (psd_ret (pd_orV (pd_cmp op_lt ops_lt (pd_callB call_len cas_len (by rfl) T.g_len (pas_cons (pd_var 0) (pas_nil))) (pd_int) (nomark _)) (pd_one (pd_andV (pd_cmp op_gt ops_gt (pd_sub (Room.u65 hr) (pd_sub (Room.u65 hr) (pd_var 0) (pd_int)) (pd_int)) (pd_int) (nomark _)) (pd_andV (pd_cmp (op_eqD (Room.u64 hr)) ops_eq (pd_sub (Room.u65 hr) (pd_sub (Room.u65 hr) (pd_var 0) (pd_int)) (pd_int)) (pd_int) (nomark _)) (pd_one (pd_chain op_le ops_le op_lt ops_lt (pd_int) (pd_sub (Room.u65 hr) (pd_sub (Room.u65 hr) (pd_var 0) (pd_int)) (pd_int)) (pd_sub (Room.u65 hr) (pd_sub (Room.u65 hr) (pd_var 0) (pd_int)) (pd_int))))))))))
theorem d__law_by_hand_right (T : Tab P w K mg base k t C_Unfit) {f : Addr} {fd : FuncData} (F : Fun K "_law_by_hand_right" "_law_by_hand_right" (top 47) f fd) : FnOk P w K mg base (L2.CX P w) (k + 1) f fd p__law_by_hand_right (spF K 0 (mkF 2 (b__law_by_hand_right C_Unfit t))) :=
  ok_fn (N := n__law_by_hand_right) F sc__law_by_hand_right rfl fun cdv A outer s H E hr => pbl_cons (psd_set 0 sc__law_by_hand_right.nd ((pl_lst (pas_cons (pd_callKP0 T.ck_loop_moves_0 hr (Nat.le_refl _) (takes_of rfl rfl rfl rfl) (by rfl) (pks_cons (pd_tup (pas_cons (pd_int) (pas_cons (pd_tup (pas_cons (pd_tup (pas_cons (pd_int) (pas_cons (pd_tup (pas_cons (pd_int) (pas_cons (pd_int) (pas_nil)))) (pas_cons (pd_int) (pas_nil))))) (pas_cons (pd_tup (pas_cons (pd_int) (pas_cons (pd_tup (pas_cons (pd_int) (pas_cons (pd_int) (pas_nil)))) (pas_cons (pd_int) (pas_nil))))) (pas_nil)))) (pas_nil)))) (pks_cons (pd_int) (pks_nil)))) (pas_cons (pd_callP T.c_loop_moves hr (Nat.le_refl _) (takes_of rfl rfl rfl rfl) (by rfl) (pas_cons (pd_tup (pas_cons (pd_int) (pas_cons (pd_tup (pas_cons (pd_tup (pas_cons (pd_int) (pas_cons (pd_tup (pas_cons (pd_int) (pas_cons (pd_neg (pd_int)) (pas_nil)))) (pas_cons (pd_int) (pas_nil))))) (pas_nil))) (pas_nil)))) (pas_cons (pd_int) (pas_nil)))) (pas_cons (pd_callP T.c_loop_moves hr (Nat.le_refl _) (takes_of rfl rfl rfl rfl) (by rfl) (pas_cons (pd_tup (pas_cons (pd_int) (pas_cons (pd_tup (pas_cons (pd_tup (pas_cons (pd_int) (pas_cons (pd_tup (pas_cons (pd_neg (pd_int)) (pas_cons (pd_int) (pas_nil)))) (pas_cons (pd_int) (pas_nil))))) (pas_nil))) (pas_nil)))) (pas_cons (pd_int) (pas_nil)))) (pas_cons (pd_callP T.c_loop_moves hr (Nat.le_refl _) (takes_of rfl rfl rfl rfl) (by rfl) (pas_cons (pd_tup (pas_cons (pd_int) (pas_cons (pd_tup (pas_cons (pd_tup (pas_cons (pd_int) (pas_cons (pd_tup (pas_cons (pd_int) (pas_cons (pd_int) (pas_nil)))) (pas_cons (pd_int) (pas_nil))))) (pas_nil))) (pas_nil)))) (pas_cons (pd_int) (pas_nil)))) (pas_nil)))))).frz)) (pbl_cons (psd_set 0 sc__law_by_hand_right.nd (pd_bin op_addU ops_addU (pd_var 0) ((pl_lst (pas_cons (pd_callP T.c_loop_moves hr (Nat.le_refl _) (takes_of rfl rfl rfl rfl) (by rfl) (pas_cons (pd_tup (pas_cons (pd_int) (pas_cons (pd_tup (pas_cons (pd_tup (pas_cons (pd_int) (pas_cons (pd_tup (pas_cons (pd_int) (pas_cons (pd_int) (pas_nil)))) (pas_cons (pd_int) (pas_nil))))) (pas_cons (pd_tup (pas_cons (pd_int) (pas_cons (pd_tup (pas_cons (pd_int) (pas_cons (pd_int) (pas_nil)))) (pas_cons (pd_int) (pas_nil))))) (pas_cons (pd_tup (pas_cons (pd_int) (pas_cons (pd_tup (pas_cons (pd_int) (pas_cons (pd_int) (pas_nil)))) (pas_cons (pd_int) (pas_nil))))) (pas_nil))))) (pas_nil)))) (pas_cons (pd_int) (pas_nil)))) (pas_cons (pd_callKP0 T.ck_room_gaps_0 hr (Nat.le_refl _) (takes_of rfl rfl rfl rfl) (by rfl) (pks_cons (pd_tup (pas_cons (pd_int) (pas_cons (pd_tup (pas_cons (pd_tup (pas_cons (pd_int) (pas_cons (pd_tup (pas_cons (pd_int) (pas_cons (pd_neg (pd_int)) (pas_nil)))) (pas_cons (pd_int) (pas_nil))))) (pas_cons (pd_tup (pas_cons (pd_int) (pas_cons (pd_tup (pas_cons (pd_int) (pas_cons (pd_int) (pas_nil)))) (pas_cons (pd_int) (pas_nil))))) (pas_cons (pd_tup (pas_cons (pd_int) (pas_cons (pd_tup (pas_cons (pd_int) (pas_cons (pd_int) (pas_nil)))) (pas_cons (pd_int) (pas_nil))))) (pas_nil))))) (pas_nil)))) (pks_cons (pd_int) (pks_nil)))) (pas_cons (pd_callP T.c_room_gaps hr (Nat.le_refl _) (takes_of rfl rfl rfl rfl) (by rfl) (pas_cons (pd_tup (pas_cons (pd_int) (pas_cons (pd_tup (pas_cons (pd_tup (pas_cons (pd_int) (pas_cons (pd_tup (pas_cons (pd_int) (pas_cons (pd_int) (pas_nil)))) (pas_cons (pd_int) (pas_nil))))) (pas_nil))) (pas_nil)))) (pas_cons (pd_int) (pas_nil)))) (pas_nil))))).frz))) (pbl_cons (psd_set 1 sc__law_by_hand_right.nd ((pl_lst (pas_cons (pd_tup (pas_cons (pd_tup (pas_cons (pd_int) (pas_cons (pd_int) (pas_nil)))) (pas_nil))) (pas_cons (pd_tup (pas_cons (pd_tup (pas_cons (pd_int) (pas_cons (pd_int) (pas_nil)))) (pas_nil))) (pas_cons (pd_tup (pas_cons (pd_tup (pas_cons (pd_int) (pas_cons (pd_neg (pd_int)) (pas_nil)))) (pas_nil))) (pas_cons (pd_tup (pas_nil)) (pas_cons (pd_tup (pas_cons (pd_tup (pas_cons (pd_int) (pas_cons (pd_int) (pas_nil)))) (pas_cons (pd_tup (pas_cons (pd_int) (pas_cons (pd_int) (pas_nil)))) (pas_nil)))) (pas_cons (pd_tup (pas_cons (pd_tup (pas_cons (pd_int) (pas_cons (pd_int) (pas_nil)))) (pas_cons (pd_tup (pas_cons (pd_int) (pas_cons (pd_int) (pas_nil)))) (pas_cons (pd_non) (pas_nil))))) (pas_cons (pd_tup (pas_cons (pd_tup (pas_cons (pd_int) (pas_cons (pd_int) (pas_nil)))) (pas_cons (pd_tup (pas_cons (pd_neg (pd_int)) (pas_cons (pd_neg (pd_int)) (pas_nil)))) (pas_nil)))) (pas_nil))))))))).frz)) (pbl_one (psd_ret (pd_callP T.c__law_same hr (Nat.le_refl _) (takes_of rfl rfl rfl rfl) (by rfl) (pas_cons (pd_var 0) (pas_cons (pd_var 1) (pas_nil))))))))
theorem d__law_right (T : Tab P w K mg base k t C_Unfit) {f : Addr} {fd : FuncData} (F : Fun K "_law_right" "_law_right" (top 48) f fd) : FnOk P w K mg base (L2.CX P w) (k + 1) f fd p__law_right (spF K 1 (mkF 11 (b__law_right C_Unfit t))) :=
  ok_fn (N := n__law_right) F sc__law_right rfl fun cdv A outer s H E hr => pbl_cons (psd_set 1 sc__law_right.nd (pd_call T.c__law_house hr (Nat.le_refl _) (takes_of rfl rfl rfl rfl) (by rfl) (pas_cons (pd_var 0) (pas_cons (pd_int) (pas_cons (pd_int) (pas_cons (pd_call T.c__law_of hr (Nat.le_refl _) (takes_of rfl rfl rfl rfl) (by rfl) (pas_cons (pd_var 0) (pas_cons ((pl_lst (pas_cons (pd_int) (pas_cons (pd_int) (pas_cons (pd_int) (pas_nil))))).frz) (pas_nil)))) (pas_nil))))))) (pbl_cons (psd_for 1000000 (passes_of rfl) rfl (pid_rng1 (by rfl) T.g_range (pas_cons (pd_sub (Room.u65 hr) (pd_var 1) (pd_int)) (pas_nil))) (pgd_name 2 sc__law_right.nd) (pbl_cons (psd_set 3 sc__law_right.nd (pd_callP T.c_loop_moves hr (Nat.le_refl _) (takes_of rfl rfl rfl rfl) (by rfl) (pas_cons (pd_call T.c__law_mixed hr (Nat.le_refl _) (takes_of rfl rfl rfl rfl) (by rfl) (pas_cons (pd_var 0) (pas_cons (pd_var 1) (pas_nil)))) (pas_cons (pd_var 2) (pas_nil))))) (pbl_cons (psd_set 4 sc__law_right.nd (pd_callP T.c__law_loops hr (Nat.le_refl _) (takes_of rfl rfl rfl rfl) (by rfl) (pas_cons (pd_var 1) (pas_cons (pd_var 2) (pas_nil))))) (pbl_cons (psd_if (PWB.pb (pwb_or (pb_not (pb_tru (pd_callB call_isi cas_isi (by rfl) T.g_isinstance (pas_cons (pd_var 3) (pas_cons (pd_tyN (by rfl) T.g_tuple (by decide +kernel)) pas_nil))))) (pwb_or (pb_not (pb_tru (pd_callP T.c__law_is_down hr (Nat.le_refl _) (takes_of rfl rfl rfl rfl) (by rfl) (pas_cons (pd_var 3) (pas_nil))))) (pwb_or1 (pb_cmp (op_neD (Room.u64 hr)) ops_ne ((pl_lc (own := [("own", 10)]) 1000000 rfl sc__law_right.nd (pid_seq (pd_var 4)) (blkOk_by (N := n__law_right) (sc := defScope (top 48)) (own := [("own", 10)]) (by decide +kernel)) (fun _ _ _ _ _ => pgd_name 10 sc__law_right.nd) (fun _ _ _ _ _ => ptsd_one (pb_not (pb_tru (pd_callP T.c__law_is_sum hr (Nat.le_refl _) takes0 (by rfl) (pas_cons ((pl_callTy call_list_of cal_list (by rfl) T.g_list (pas_cons (pd_var 3) (pas_nil))).frz) (pas_cons (pd_var 10) (pas_nil))))))) (fun _ _ _ _ _ => pd_var 10)).frz) ((pl_lst (pas_nil)).frz) (nomark _)))))) (pbl_one (psd_ret (pd_bl))) (pbl_nil)) (pbl_cons (psd_if (pb_cmp (op_neD (Room.u64 hr)) ops_ne ((pl_lc (own := [("own", 10)]) 1000000 rfl sc__law_right.nd (pid_seq (pd_var 3)) (blkOk_by (N := n__law_right) (sc := defScope (top 48)) (own := [("own", 10)]) (by decide +kernel)) (fun _ _ _ _ _ => pgd_name 10 sc__law_right.nd) (fun _ _ _ _ _ => ptsd_one (pb_not (pb_tru (pd_callP T.c__law_is_sum hr (Nat.le_refl _) takes0 (by rfl) (pas_cons (pd_var 4) (pas_cons (pd_var 10) (pas_nil))))))) (fun _ _ _ _ _ => pd_var 10)).frz) ((pl_lst (pas_nil)).frz) (nomark _)) (pbl_one (psd_ret (pd_bl))) (pbl_nil)) (pbl_cons (psd_par 6 7 rfl sc__law_right.nd (pas_cons (pd_callP T.c_room_gaps hr (Nat.le_refl _) (takes_of rfl rfl rfl rfl) (by rfl) (pas_cons (pd_var 1) (pas_cons (pd_var 2) (pas_nil)))) (pas_cons (pd_call T.c__law_gaps hr (Nat.le_refl _) (takes_of rfl rfl rfl rfl) (by rfl) (pas_cons (pd_var 1) (pas_cons (pd_var 2) (pas_nil)))) (pas_nil)))) (pbl_cons (psd_if (PWB.pb (pwb_or (pb_not (pb_tru (pd_callB call_isi cas_isi (by rfl) T.g_isinstance (pas_cons (pd_var 6) (pas_cons (pd_tyN (by rfl) T.g_tuple (by decide +kernel)) pas_nil))))) (pwb_or (pb_cmp (op_neD (Room.u64 hr)) ops_ne (pd_callB call_len cas_len (by rfl) T.g_len (pas_cons (pd_var 6) (pas_nil))) (pd_sub (Room.u65 hr) (pd_var 1) (pd_int)) (nomark _)) (pwb_or1 (pb_cmp (op_neD (Room.u64 hr)) ops_ne ((pl_lc (own := [("k", 5), ("own", 10)]) 1000000 rfl sc__law_right.nd (pid_num (by rfl) T.g_enumerate (pas_cons (pd_var 6) (pas_nil))) (blkOk_by (N := n__law_right) (sc := defScope (top 48)) (own := [("k", 5), ("own", 10)]) (by decide +kernel)) (fun _ _ _ _ _ => pgd_tup (n := 2) rfl (pgsd_cons (pgd_name 5 sc__law_right.nd) (pgsd_cons (pgd_name 10 sc__law_right.nd) (pgsd_nil)))) (fun _ _ _ _ _ => ptsd_one (pb_cmp op_notN ops_isntN (pd_var 10) (pd_non) (nomark _))) (fun _ _ _ _ _ => pd_var 5)).frz) ((pl_callB (call_sortU rfl) cal_sortU (by rfl) T.g_sorted (pas_cons (pd_var 7) (pas_nil))).frz) (nomark _)))))) (pbl_one (psd_ret (pd_bl))) (pbl_nil)) (pbl_cons (psd_forK 1000000 7 (passes_of rfl) rfl (pgd_name 5 sc__law_right.nd) (pbl_cons (psd_asg (pd_sub (Room.u65 hr) (pd_var 6) (pd_var 5)) (pgd_tup (n := 2) rfl (pgsd_cons (pgd_name 8 sc__law_right.nd) (pgsd_cons (pgd_name 9 sc__law_right.nd) (pgsd_nil))))) (pbl_cons (psd_if (pb_not (pb_tru (pd_callP T.c__law_is_sum hr (Nat.le_refl _) (takes_of rfl rfl rfl rfl) (by rfl) (pas_cons (pd_var 4) (pas_cons (pd_callP T.c__law_plus hr (Nat.le_refl _) (takes_of rfl rfl rfl rfl) (by rfl) (pas_cons (pd_sub (Room.u65 hr) (pd_var 6) (pd_var 5)) (pas_cons (pd_callP T.c__law_often hr (Nat.le_refl _) (takes_of rfl rfl rfl rfl) (by rfl) (pas_cons (pd_neg (pd_int)) (pas_cons (pd_sub (Room.u65 hr) (pd_var 7) (pd_var 5)) (pas_nil)))) (pas_nil)))) (pas_nil)))))) (pbl_one (psd_ret (pd_bl))) (pbl_nil)) (pbl_one (psd_if (pb_cmp (op_neD (Room.u64 hr)) ops_ne ((pl_lc (own := [("own", 10)]) 1000000 rfl sc__law_right.nd (pid_seq (pd_var 3)) (blkOk_by (N := n__law_right) (sc := defScope (top 48)) (own := [("own", 10)]) (by decide +kernel)) (fun _ _ _ _ _ => pgd_name 10 sc__law_right.nd) (fun _ _ _ _ _ => ptsd_one (PWB.pb (pwb_or (PWB.pb (pwb_and (pb_cmp op_gt ops_gt (pd_sub (Room.u65 hr) (pd_var 10) (pd_int)) (pd_int) (nomark _)) (pwb_and1 (pb_not (pb_chain op_le ops_le op_lt ops_lt (pd_int) (pd_var 8) (pd_sub (Room.u65 hr) (pd_var 10) (pd_int))))))) (pwb_or1 (PWB.pb (pwb_and (pb_cmp (op_eqD (Room.u64 hr)) ops_eq (pd_sub (Room.u65 hr) (pd_var 10) (pd_int)) (pd_int) (nomark _)) (pwb_and1 (pb_not (pb_chain op_le ops_le op_lt ops_lt (pd_int) (pd_var 9) (pd_sub (Room.u65 hr) (pd_var 10) (pd_int))))))))))) (fun _ _ _ _ _ => pd_var 10)).frz) ((pl_lst (pas_nil)).frz) (nomark _)) (pbl_one (psd_ret (pd_bl))) (pbl_nil)))))) (pbl_one (psd_forK 1000000 7 (passes_of rfl) rfl (pgd_name 5 sc__law_right.nd) (pbl_cons (psd_if (PWB.pb (pwb_or (pb_not (pb_tru (pd_callP T.c__law_same hr (Nat.le_refl _) (takes_of rfl rfl rfl rfl) (by rfl) (pas_cons (pd_callP T.c_loop_moves hr (Nat.le_refl _) (takes_of rfl rfl rfl rfl) (by rfl) (pas_cons (pd_var 1) (pas_cons (pd_var 5) (pas_nil)))) (pas_cons (pd_var 3) (pas_nil)))))) (pwb_or1 (pb_not (pb_tru (pd_callP T.c__law_same hr (Nat.le_refl _) (takes_of rfl rfl rfl rfl) (by rfl) (pas_cons (pd_sub (Room.u65 hr) (pd_callP T.c_room_gaps hr (Nat.le_refl _) (takes_of rfl rfl rfl rfl) (by rfl) (pas_cons (pd_var 1) (pas_cons (pd_var 5) (pas_nil)))) (pd_var 5)) (pas_cons (pd_tup (pas_cons (pd_int) (pas_cons (pd_int) (pas_nil)))) (pas_nil))))))))) (pbl_one (psd_ret (pd_bl))) (pbl_nil)) (pbl_one (psd_if (pb_not (pb_tru (pd_callP T.c__law_is_sum hr (Nat.le_refl _) (takes_of rfl rfl rfl rfl) (by rfl) (pas_cons (pd_var 4) (pas_cons (pd_callP T.c__law_plus hr (Nat.le_refl _) (takes_of rfl rfl rfl rfl) (by rfl) (pas_cons (pd_sub (Room.u65 hr) (pd_callP T.c_room_gaps hr (Nat.le_refl _) (takes_of rfl rfl rfl rfl) (by rfl) (pas_cons (pd_var 1) (pas_cons (pd_var 5) (pas_nil)))) (pd_var 2)) (pas_cons (pd_sub (Room.u65 hr) (pd_var 6) (pd_var 5)) (pas_nil)))) (pas_nil)))))) (pbl_one (psd_ret (pd_bl))) (pbl_nil)))))))))))))) (pbl_one (psd_ret (pd_bl))))
theorem d_law (T : Tab P w K mg base k t C_Unfit) {f : Addr} {fd : FuncData} (F : Fun K "law" "law" (top 49) f fd) : FnOk P w K mg base (L2.CX P w) (k + 1) f fd p_law (spF K 1 (mkF 5 (b_law C_Unfit t))) :=
  ok_fn (N := n_law) F sc_law rfl fun cdv A outer s H E hr => pbl_cons (psd_set 1 sc_law.nd (pd_callP T.c__law_cells hr (Nat.le_refl _) (takes_of rfl rfl rfl rfl) (by rfl) (pas_cons (pd_var 0) (pas_cons (pd_int) (pas_nil))))) (pbl_one (psd_ret (pd_andV (pd_call0 T.c__law_by_hand_right hr (Nat.le_refl _) (takes_of rfl rfl rfl rfl) (by rfl)) (pd_one (pd_callB (cr_all rfl) cas_all (by rfl) T.g_all (pas_cons ((pl_lc (own := [("k", 2)]) 1000000 rfl sc_law.nd (pid_rng1 (by rfl) T.g_range (pas_cons (pd_callB call_len cas_len (by rfl) T.g_len (pas_cons (pd_var 1) (pas_nil))) (pas_nil))) (blkOk_by (N := n_law) (sc := defScope (top 49)) (own := [("k", 2)]) (by decide +kernel)) (fun _ _ _ _ _ => pgd_name 2 sc_law.nd) (fun _ _ _ _ _ => ptsd_nil) (fun _ _ _ _ _ => pd_callB (cr_all rfl) cas_all (by rfl) T.g_all (pas_cons ((pl_lc (own := [("lap", 3)]) 1000000 rfl sc_law.nd (pid_seq (pd_tup (pas_cons (pd_int) (pas_cons (pd_int) (pas_cons (pd_int) (pas_nil)))))) (blkOk_by (own := [("lap", 3)]) (by with_unfolding_all rfl)) (fun _ _ _ _ _ => pgd_name 3 sc_law.nd) (fun _ _ _ _ _ => ptsd_nil) (fun _ _ _ _ _ => pd_call T.c__law_right hr (Nat.le_refl _) takes0 (by rfl) (pas_cons (pd_call T.c__law_box hr (Nat.le_refl _) takes0 (by rfl) (pas_cons ((pl_lc (own := [("own", 4)]) 1000000 rfl sc_law.nd (pid_seq (pd_var 1)) (blkOk_by (own := [("own", 4)]) (by with_unfolding_all rfl)) (fun _ _ _ _ _ => pgd_name 4 sc_law.nd) (fun _ _ _ _ _ => ptsd_nil) (fun _ _ _ _ _ => pd_bin op_addU ops_addU (pd_var 4) (pd_var 3))).frz) (pas_cons (pd_var 2) (pas_nil)))) (pas_nil)))).frz) (pas_nil)))).frz) (pas_nil)))))))
end
def tb (C_Unfit : Addr) : Nat → Nat → Fn
  | 0, _ => fun _ _ => .none
  | k + 1, i => match i with
    | 0 => mkF 1 (b_is_number C_Unfit (tb C_Unfit k))
    | 1 => mkF 3 (b_is_within C_Unfit (tb C_Unfit k))
    | 2 => mkF 3 (b_sure_within C_Unfit (tb C_Unfit k))
    | 3 => mkF 2 (b_is_long C_Unfit (tb C_Unfit k))
    | 4 => mkF 2 (b_are_numbers C_Unfit (tb C_Unfit k))
    | 5 => mkF 2 (b_tupled C_Unfit (tb C_Unfit k))
    | 6 => mkF 1 (b_is_move C_Unfit (tb C_Unfit k))
    | 7 => mkF 2 (b_taken C_Unfit (tb C_Unfit k))
    | 8 => mkF 2 (b_often C_Unfit (tb C_Unfit k))
    | 9 => mkF 2 (b_is_step_of C_Unfit (tb C_Unfit k))
    | 10 => mkF 2 (b_is_house_of C_Unfit (tb C_Unfit k))
    | 11 => mkF 3 (b_sure_house C_Unfit (tb C_Unfit k))
    | 12 => mkF 6 (b_less_in C_Unfit (tb C_Unfit k))
    | 13 => mkF 2 (b_turned_about C_Unfit (tb C_Unfit k))
    | 14 => mkF 3 (b_divided_on C_Unfit (tb C_Unfit k))
    | 15 => mkF 5 (b_lattice_in C_Unfit (tb C_Unfit k))
    | 16 => mkF 4 (b_brought_down C_Unfit (tb C_Unfit k))
    | 17 => mkF 13 (b_told_in C_Unfit (tb C_Unfit k))
    | 18 => mkF 2 (b_sure_room C_Unfit (tb C_Unfit k))
    | 19 => mkF 2 (b_moves_of C_Unfit (tb C_Unfit k))
    | 20 => mkF 3 (b_loop_moves C_Unfit (tb C_Unfit k))
    | 21 => mkF 6 (b_room_gaps C_Unfit (tb C_Unfit k))
    | 22 => mkF 3 (b__law_box C_Unfit (tb C_Unfit k))
    | 23 => mkF 6 (b__law_take C_Unfit (tb C_Unfit k))
    | 24 => mkF 6 (b__law_cells C_Unfit (tb C_Unfit k))
    | 25 => mkF 2 (b__law_of C_Unfit (tb C_Unfit k))
    | 26 => mkF 4 (b__law_mixed C_Unfit (tb C_Unfit k))
    | 27 => mkF 4 (b__law_same C_Unfit (tb C_Unfit k))
    | 28 => mkF 2 (b__law_plus C_Unfit (tb C_Unfit k))
    | 29 => mkF 2 (b__law_often C_Unfit (tb C_Unfit k))
    | 30 => mkF 3 (b__law_move C_Unfit (tb C_Unfit k))
    | 31 => mkF 7 (b__law_house C_Unfit (tb C_Unfit k))
    | 32 => mkF 5 (b__law_divisor C_Unfit (tb C_Unfit k))
    | 33 => mkF 7 (b__law_gaps C_Unfit (tb C_Unfit k))
    | 34 => mkF 6 (b__law_loops C_Unfit (tb C_Unfit k))
    | 35 => mkF 6 (b__law_minors C_Unfit (tb C_Unfit k))
    | 36 => mkF 4 (b__law_is_sum C_Unfit (tb C_Unfit k))
    | 37 => mkF 2 (b__law_is_down C_Unfit (tb C_Unfit k))
    | 38 => mkF 2 (b__law_by_hand_right C_Unfit (tb C_Unfit k))
    | 39 => mkF 11 (b__law_right C_Unfit (tb C_Unfit k))
    | 40 => mkF 5 (b_law C_Unfit (tb C_Unfit k))
    | _ => fun _ _ => .none
structure Whole (K : PySem.W.Frag) (C_Unfit : Addr) : Prop where
  z_abs : PySem.W.nsIn K mainGlobals "abs" = some none
  z_all : PySem.W.nsIn K mainGlobals "all" = some none
  z_any : PySem.W.nsIn K mainGlobals "any" = some none
  z_bool : PySem.W.nsIn K mainGlobals "bool" = some none
  z_enumerate : PySem.W.nsIn K mainGlobals "enumerate" = some none
  z_int : PySem.W.nsIn K mainGlobals "int" = some none
  z_isinstance : PySem.W.nsIn K mainGlobals "isinstance" = some none
  z_len : PySem.W.nsIn K mainGlobals "len" = some none
  z_list : PySem.W.nsIn K mainGlobals "list" = some none
  z_max : PySem.W.nsIn K mainGlobals "max" = some none
  z_range : PySem.W.nsIn K mainGlobals "range" = some none
  z_sorted : PySem.W.nsIn K mainGlobals "sorted" = some none
  z_str : PySem.W.nsIn K mainGlobals "str" = some none
  z_tuple : PySem.W.nsIn K mainGlobals "tuple" = some none
  z_zip : PySem.W.nsIn K mainGlobals "zip" = some none
  k_MOST_ROOMS : NumK K "MOST_ROOMS" (6)
  k_MOST_SPEED : NumK K "MOST_SPEED" (9)
  k_MOST_STEPS : NumK K "MOST_STEPS" (16)
  x_Unfit : ExcK K "Unfit" C_Unfit
  h_is_number : H1 K "is_number" (top 3)
  h_is_within : H1 K "is_within" (top 4)
  h_sure_within : H1 K "sure_within" (top 5)
  h_is_long : H1 K "is_long" (top 6)
  h_are_numbers : H1 K "are_numbers" (top 7)
  h_tupled : H1 K "tupled" (top 8)
  h_is_move : H1 K "is_move" (top 9)
  h_taken : H1 K "taken" (top 10)
  h_often : H1 K "often" (top 11)
  h_is_step_of : H1 K "is_step_of" (top 16)
  h_is_house_of : H1 K "is_house_of" (top 17)
  h_sure_house : H1 K "sure_house" (top 18)
  h_less_in : H1 K "less_in" (top 20)
  h_turned_about : H1 K "turned_about" (top 21)
  h_divided_on : H1 K "divided_on" (top 22)
  h_lattice_in : H1 K "lattice_in" (top 23)
  h_brought_down : H1 K "brought_down" (top 24)
  h_told_in : H1 K "told_in" (top 25)
  h_sure_room : H1 K "sure_room" (top 26)
  h_moves_of : H1 K "moves_of" (top 27)
  h_loop_moves : H1 K "loop_moves" (top 28)
  h_room_gaps : H1 K "room_gaps" (top 29)
  h__law_box : H1 K "_law_box" (top 31)
  h__law_take : H1 K "_law_take" (top 32)
  h__law_cells : H1 K "_law_cells" (top 33)
  h__law_of : H1 K "_law_of" (top 34)
  h__law_mixed : H1 K "_law_mixed" (top 35)
  h__law_same : H1 K "_law_same" (top 36)
  h__law_plus : H1 K "_law_plus" (top 37)
  h__law_often : H1 K "_law_often" (top 38)
  h__law_move : H1 K "_law_move" (top 39)
  h__law_house : H1 K "_law_house" (top 40)
  h__law_divisor : H1 K "_law_divisor" (top 41)
  h__law_gaps : H1 K "_law_gaps" (top 42)
  h__law_loops : H1 K "_law_loops" (top 43)
  h__law_minors : H1 K "_law_minors" (top 44)
  h__law_is_sum : H1 K "_law_is_sum" (top 45)
  h__law_is_down : H1 K "_law_is_down" (top 46)
  h__law_by_hand_right : H1 K "_law_by_hand_right" (top 47)
  h__law_right : H1 K "_law_right" (top 48)
  h_law : H1 K "law" (top 49)
theorem tab {P : Program} {w : World} {K : PySem.W.Frag} {mg : Str → Option Value} {base h : Heap} {C_Unfit : Addr} (Y : Whole K C_Unfit) (KX : K.In h) (G : h.Ns mainGlobals mg) : ∀ k, Tab P w K mg base k (tb C_Unfit k) C_Unfit := by
  obtain ⟨f_is_number, fd_is_number, a_is_number, F_is_number⟩ := Y.h_is_number.ex
  obtain ⟨f_is_within, fd_is_within, a_is_within, F_is_within⟩ := Y.h_is_within.ex
  obtain ⟨f_sure_within, fd_sure_within, a_sure_within, F_sure_within⟩ := Y.h_sure_within.ex
  obtain ⟨f_is_long, fd_is_long, a_is_long, F_is_long⟩ := Y.h_is_long.ex
  obtain ⟨f_are_numbers, fd_are_numbers, a_are_numbers, F_are_numbers⟩ := Y.h_are_numbers.ex
  obtain ⟨f_tupled, fd_tupled, a_tupled, F_tupled⟩ := Y.h_tupled.ex
  obtain ⟨f_is_move, fd_is_move, a_is_move, F_is_move⟩ := Y.h_is_move.ex
  obtain ⟨f_taken, fd_taken, a_taken, F_taken⟩ := Y.h_taken.ex
  obtain ⟨f_often, fd_often, a_often, F_often⟩ := Y.h_often.ex
  obtain ⟨f_is_step_of, fd_is_step_of, a_is_step_of, F_is_step_of⟩ := Y.h_is_step_of.ex
  obtain ⟨f_is_house_of, fd_is_house_of, a_is_house_of, F_is_house_of⟩ := Y.h_is_house_of.ex
  obtain ⟨f_sure_house, fd_sure_house, a_sure_house, F_sure_house⟩ := Y.h_sure_house.ex
  obtain ⟨f_less_in, fd_less_in, a_less_in, F_less_in⟩ := Y.h_less_in.ex
  obtain ⟨f_turned_about, fd_turned_about, a_turned_about, F_turned_about⟩ := Y.h_turned_about.ex
  obtain ⟨f_divided_on, fd_divided_on, a_divided_on, F_divided_on⟩ := Y.h_divided_on.ex
  obtain ⟨f_lattice_in, fd_lattice_in, a_lattice_in, F_lattice_in⟩ := Y.h_lattice_in.ex
  obtain ⟨f_brought_down, fd_brought_down, a_brought_down, F_brought_down⟩ := Y.h_brought_down.ex
  obtain ⟨f_told_in, fd_told_in, a_told_in, F_told_in⟩ := Y.h_told_in.ex
  obtain ⟨f_sure_room, fd_sure_room, a_sure_room, F_sure_room⟩ := Y.h_sure_room.ex
  obtain ⟨f_moves_of, fd_moves_of, a_moves_of, F_moves_of⟩ := Y.h_moves_of.ex
  obtain ⟨f_loop_moves, fd_loop_moves, a_loop_moves, F_loop_moves⟩ := Y.h_loop_moves.ex
  obtain ⟨f_room_gaps, fd_room_gaps, a_room_gaps, F_room_gaps⟩ := Y.h_room_gaps.ex
  obtain ⟨f__law_box, fd__law_box, a__law_box, F__law_box⟩ := Y.h__law_box.ex
  obtain ⟨f__law_take, fd__law_take, a__law_take, F__law_take⟩ := Y.h__law_take.ex
  obtain ⟨f__law_cells, fd__law_cells, a__law_cells, F__law_cells⟩ := Y.h__law_cells.ex
  obtain ⟨f__law_of, fd__law_of, a__law_of, F__law_of⟩ := Y.h__law_of.ex
  obtain ⟨f__law_mixed, fd__law_mixed, a__law_mixed, F__law_mixed⟩ := Y.h__law_mixed.ex
  obtain ⟨f__law_same, fd__law_same, a__law_same, F__law_same⟩ := Y.h__law_same.ex
  obtain ⟨f__law_plus, fd__law_plus, a__law_plus, F__law_plus⟩ := Y.h__law_plus.ex
  obtain ⟨f__law_often, fd__law_often, a__law_often, F__law_often⟩ := Y.h__law_often.ex
  obtain ⟨f__law_move, fd__law_move, a__law_move, F__law_move⟩ := Y.h__law_move.ex
  obtain ⟨f__law_house, fd__law_house, a__law_house, F__law_house⟩ := Y.h__law_house.ex
  obtain ⟨f__law_divisor, fd__law_divisor, a__law_divisor, F__law_divisor⟩ := Y.h__law_divisor.ex
  obtain ⟨f__law_gaps, fd__law_gaps, a__law_gaps, F__law_gaps⟩ := Y.h__law_gaps.ex
  obtain ⟨f__law_loops, fd__law_loops, a__law_loops, F__law_loops⟩ := Y.h__law_loops.ex
  obtain ⟨f__law_minors, fd__law_minors, a__law_minors, F__law_minors⟩ := Y.h__law_minors.ex
  obtain ⟨f__law_is_sum, fd__law_is_sum, a__law_is_sum, F__law_is_sum⟩ := Y.h__law_is_sum.ex
  obtain ⟨f__law_is_down, fd__law_is_down, a__law_is_down, F__law_is_down⟩ := Y.h__law_is_down.ex
  obtain ⟨f__law_by_hand_right, fd__law_by_hand_right, a__law_by_hand_right, F__law_by_hand_right⟩ := Y.h__law_by_hand_right.ex
  obtain ⟨f__law_right, fd__law_right, a__law_right, F__law_right⟩ := Y.h__law_right.ex
  obtain ⟨f_law, fd_law, a_law, F_law⟩ := Y.h_law.ex
  have B_is_number := F_is_number.binds (ps := p_is_number) fun _ _ _ _ _ _ us hl => match us, hl with | [_], _ => rfl
  have B_is_within := F_is_within.binds (ps := p_is_within) fun _ _ _ _ _ _ us hl => match us, hl with | [_, _, _], _ => rfl
  have B_sure_within := F_sure_within.binds (ps := p_sure_within) fun _ _ _ _ _ _ us hl => match us, hl with | [_, _, _], _ => rfl
  have B_is_long := F_is_long.binds (ps := p_is_long) fun _ _ _ _ _ _ us hl => match us, hl with | [_, _], _ => rfl
  have B_are_numbers := F_are_numbers.binds (ps := p_are_numbers) fun _ _ _ _ _ _ us hl => match us, hl with | [_], _ => rfl
  have B_tupled := F_tupled.binds (ps := p_tupled) fun _ _ _ _ _ _ us hl => match us, hl with | [_], _ => rfl
  have B_is_move := F_is_move.binds (ps := p_is_move) fun _ _ _ _ _ _ us hl => match us, hl with | [_], _ => rfl
  have B_taken := F_taken.binds (ps := p_taken) fun _ _ _ _ _ _ us hl => match us, hl with | [_, _], _ => rfl
  have B_often := F_often.binds (ps := p_often) fun _ _ _ _ _ _ us hl => match us, hl with | [_, _], _ => rfl
  have B_is_step_of := F_is_step_of.binds (ps := p_is_step_of) fun _ _ _ _ _ _ us hl => match us, hl with | [_, _], _ => rfl
  have B_is_house_of := F_is_house_of.binds (ps := p_is_house_of) fun _ _ _ _ _ _ us hl => match us, hl with | [_], _ => rfl
  have B_sure_house := F_sure_house.binds (ps := p_sure_house) fun _ _ _ _ _ _ us hl => match us, hl with | [_], _ => rfl
  have B_less_in := F_less_in.binds (ps := p_less_in) fun _ _ _ _ _ _ us hl => match us, hl with | [_, _, _], _ => rfl
  have B_turned_about := F_turned_about.binds (ps := p_turned_about) fun _ _ _ _ _ _ us hl => match us, hl with | [_], _ => rfl
  have B_divided_on := F_divided_on.binds (ps := p_divided_on) fun _ _ _ _ _ _ us hl => match us, hl with | [_, _, _], _ => rfl
  have B_lattice_in := F_lattice_in.binds (ps := p_lattice_in) fun _ _ _ _ _ _ us hl => match us, hl with | [_], _ => rfl
  have B_brought_down := F_brought_down.binds (ps := p_brought_down) fun _ _ _ _ _ _ us hl => match us, hl with | [_, _], _ => rfl
  have B_told_in := F_told_in.binds (ps := p_told_in) fun _ _ _ _ _ _ us hl => match us, hl with | [_, _], _ => rfl
  have B_sure_room := F_sure_room.binds (ps := p_sure_room) fun _ _ _ _ _ _ us hl => match us, hl with | [_, _], _ => rfl
  have B_moves_of := F_moves_of.binds (ps := p_moves_of) fun _ _ _ _ _ _ us hl => match us, hl with | [_], _ => rfl
  have B_loop_moves := F_loop_moves.binds (ps := p_loop_moves) fun _ _ _ _ _ _ us hl => match us, hl with | [_, _], _ => rfl
  have B_room_gaps := F_room_gaps.binds (ps := p_room_gaps) fun _ _ _ _ _ _ us hl => match us, hl with | [_, _], _ => rfl
  have B__law_box := F__law_box.binds (ps := p__law_box) fun _ _ _ _ _ _ us hl => match us, hl with | [_, _], _ => rfl
  have B__law_take := F__law_take.binds (ps := p__law_take) fun _ _ _ _ _ _ us hl => match us, hl with | [_, _], _ => rfl
  have B__law_cells := F__law_cells.binds (ps := p__law_cells) fun _ _ _ _ _ _ us hl => match us, hl with | [_, _], _ => rfl
  have B__law_of := F__law_of.binds (ps := p__law_of) fun _ _ _ _ _ _ us hl => match us, hl with | [_, _], _ => rfl
  have B__law_mixed := F__law_mixed.binds (ps := p__law_mixed) fun _ _ _ _ _ _ us hl => match us, hl with | [_, _], _ => rfl
  have B__law_same := F__law_same.binds (ps := p__law_same) fun _ _ _ _ _ _ us hl => match us, hl with | [_, _], _ => rfl
  have B__law_plus := F__law_plus.binds (ps := p__law_plus) fun _ _ _ _ _ _ us hl => match us, hl with | [_, _], _ => rfl
  have B__law_often := F__law_often.binds (ps := p__law_often) fun _ _ _ _ _ _ us hl => match us, hl with | [_, _], _ => rfl
  have B__law_move := F__law_move.binds (ps := p__law_move) fun _ _ _ _ _ _ us hl => match us, hl with | [_, _], _ => rfl
  have B__law_house := F__law_house.binds (ps := p__law_house) fun _ _ _ _ _ _ us hl => match us, hl with | [_, _, _, _], _ => rfl
  have B__law_divisor := F__law_divisor.binds (ps := p__law_divisor) fun _ _ _ _ _ _ us hl => match us, hl with | [_, _], _ => rfl
  have B__law_gaps := F__law_gaps.binds (ps := p__law_gaps) fun _ _ _ _ _ _ us hl => match us, hl with | [_, _], _ => rfl
  have B__law_loops := F__law_loops.binds (ps := p__law_loops) fun _ _ _ _ _ _ us hl => match us, hl with | [_, _], _ => rfl
  have B__law_minors := F__law_minors.binds (ps := p__law_minors) fun _ _ _ _ _ _ us hl => match us, hl with | [_], _ => rfl
  have B__law_is_sum := F__law_is_sum.binds (ps := p__law_is_sum) fun _ _ _ _ _ _ us hl => match us, hl with | [_, _], _ => rfl
  have B__law_is_down := F__law_is_down.binds (ps := p__law_is_down) fun _ _ _ _ _ _ us hl => match us, hl with | [_], _ => rfl
  have B__law_by_hand_right := F__law_by_hand_right.binds (ps := p__law_by_hand_right) fun _ _ _ _ _ _ us hl => match us, hl with | [], _ => rfl
  have B__law_right := F__law_right.binds (ps := p__law_right) fun _ _ _ _ _ _ us hl => match us, hl with | [_], _ => rfl
  have B_law := F_law.binds (ps := p_law) fun _ _ _ _ _ _ us hl => match us, hl with | [_], _ => rfl
  have KB_loop_moves_0 := kb_of (ps := p_loop_moves) (ks := ["house", "room"]) (n0 := 0) F_loop_moves fun _ _ _ _ _ _ us ws hl hn => match us, ws, hl, hn with | [], [_, _], _, _ => rfl
  have KB_room_gaps_0 := kb_of (ps := p_room_gaps) (ks := ["house", "room"]) (n0 := 0) F_room_gaps fun _ _ _ _ _ _ us ws hl hn => match us, ws, hl, hn with | [], [_, _], _, _ => rfl
  intro k
  induction k with
  | zero => exact {
    g_abs := PySem.W.mg_none_of KX G Y.z_abs
    g_all := PySem.W.mg_none_of KX G Y.z_all
    g_any := PySem.W.mg_none_of KX G Y.z_any
    g_bool := PySem.W.mg_none_of KX G Y.z_bool
    g_enumerate := PySem.W.mg_none_of KX G Y.z_enumerate
    g_int := PySem.W.mg_none_of KX G Y.z_int
    g_isinstance := PySem.W.mg_none_of KX G Y.z_isinstance
    g_len := PySem.W.mg_none_of KX G Y.z_len
    g_list := PySem.W.mg_none_of KX G Y.z_list
    g_max := PySem.W.mg_none_of KX G Y.z_max
    g_range := PySem.W.mg_none_of KX G Y.z_range
    g_sorted := PySem.W.mg_none_of KX G Y.z_sorted
    g_str := PySem.W.mg_none_of KX G Y.z_str
    g_tuple := PySem.W.mg_none_of KX G Y.z_tuple
    g_zip := PySem.W.mg_none_of KX G Y.z_zip
    k_MOST_ROOMS := Y.k_MOST_ROOMS.cst KX G
    k_MOST_SPEED := Y.k_MOST_SPEED.cst KX G
    k_MOST_STEPS := Y.k_MOST_STEPS.cst KX G
    x_Unfit := Y.x_Unfit.bare KX G
    ck_loop_moves_0 := ⟨f_loop_moves, fd_loop_moves, p_loop_moves, ok_fn0, PySem.W.mg_of KX G a_loop_moves, F_loop_moves.kp, KB_loop_moves_0⟩
    ck_room_gaps_0 := ⟨f_room_gaps, fd_room_gaps, p_room_gaps, ok_fn0, PySem.W.mg_of KX G a_room_gaps, F_room_gaps.kp, KB_room_gaps_0⟩
    c_is_number := ⟨f_is_number, fd_is_number, p_is_number, ok_fn0, PySem.W.mg_of KX G a_is_number, F_is_number.kp, B_is_number⟩
    c_is_within := ⟨f_is_within, fd_is_within, p_is_within, ok_fn0, PySem.W.mg_of KX G a_is_within, F_is_within.kp, B_is_within⟩
    c_sure_within := ⟨f_sure_within, fd_sure_within, p_sure_within, ok_fn0, PySem.W.mg_of KX G a_sure_within, F_sure_within.kp, B_sure_within⟩
    c_is_long := ⟨f_is_long, fd_is_long, p_is_long, ok_fn0, PySem.W.mg_of KX G a_is_long, F_is_long.kp, B_is_long⟩
    c_are_numbers := ⟨f_are_numbers, fd_are_numbers, p_are_numbers, ok_fn0, PySem.W.mg_of KX G a_are_numbers, F_are_numbers.kp, B_are_numbers⟩
    c_tupled := ⟨f_tupled, fd_tupled, p_tupled, ok_fn0, PySem.W.mg_of KX G a_tupled, F_tupled.kp, B_tupled⟩
    c_is_move := ⟨f_is_move, fd_is_move, p_is_move, ok_fn0, PySem.W.mg_of KX G a_is_move, F_is_move.kp, B_is_move⟩
    c_taken := ⟨f_taken, fd_taken, p_taken, ok_fn0, PySem.W.mg_of KX G a_taken, F_taken.kp, B_taken⟩
    c_often := ⟨f_often, fd_often, p_often, ok_fn0, PySem.W.mg_of KX G a_often, F_often.kp, B_often⟩
    c_is_step_of := ⟨f_is_step_of, fd_is_step_of, p_is_step_of, ok_fn0, PySem.W.mg_of KX G a_is_step_of, F_is_step_of.kp, B_is_step_of⟩
    c_is_house_of := ⟨f_is_house_of, fd_is_house_of, p_is_house_of, ok_fn0, PySem.W.mg_of KX G a_is_house_of, F_is_house_of.kp, B_is_house_of⟩
    c_sure_house := ⟨f_sure_house, fd_sure_house, p_sure_house, ok_fn0, PySem.W.mg_of KX G a_sure_house, F_sure_house.kp, B_sure_house⟩
    c_less_in := ⟨f_less_in, fd_less_in, p_less_in, ok_fn0, PySem.W.mg_of KX G a_less_in, F_less_in.kp, B_less_in⟩
    c_turned_about := ⟨f_turned_about, fd_turned_about, p_turned_about, ok_fn0, PySem.W.mg_of KX G a_turned_about, F_turned_about.kp, B_turned_about⟩
    c_divided_on := ⟨f_divided_on, fd_divided_on, p_divided_on, ok_fn0, PySem.W.mg_of KX G a_divided_on, F_divided_on.kp, B_divided_on⟩
    c_lattice_in := ⟨f_lattice_in, fd_lattice_in, p_lattice_in, ok_fn0, PySem.W.mg_of KX G a_lattice_in, F_lattice_in.kp, B_lattice_in⟩
    c_brought_down := ⟨f_brought_down, fd_brought_down, p_brought_down, ok_fn0, PySem.W.mg_of KX G a_brought_down, F_brought_down.kp, B_brought_down⟩
    c_told_in := ⟨f_told_in, fd_told_in, p_told_in, ok_fn0, PySem.W.mg_of KX G a_told_in, F_told_in.kp, B_told_in⟩
    c_sure_room := ⟨f_sure_room, fd_sure_room, p_sure_room, ok_fn0, PySem.W.mg_of KX G a_sure_room, F_sure_room.kp, B_sure_room⟩
    c_moves_of := ⟨f_moves_of, fd_moves_of, p_moves_of, ok_fn0, PySem.W.mg_of KX G a_moves_of, F_moves_of.kp, B_moves_of⟩
    c_loop_moves := ⟨f_loop_moves, fd_loop_moves, p_loop_moves, ok_fn0, PySem.W.mg_of KX G a_loop_moves, F_loop_moves.kp, B_loop_moves⟩
    c_room_gaps := ⟨f_room_gaps, fd_room_gaps, p_room_gaps, ok_fn0, PySem.W.mg_of KX G a_room_gaps, F_room_gaps.kp, B_room_gaps⟩
    c__law_box := ⟨f__law_box, fd__law_box, p__law_box, ok_fn0, PySem.W.mg_of KX G a__law_box, F__law_box.kp, B__law_box⟩
    c__law_take := ⟨f__law_take, fd__law_take, p__law_take, ok_fn0, PySem.W.mg_of KX G a__law_take, F__law_take.kp, B__law_take⟩
    c__law_cells := ⟨f__law_cells, fd__law_cells, p__law_cells, ok_fn0, PySem.W.mg_of KX G a__law_cells, F__law_cells.kp, B__law_cells⟩
    c__law_of := ⟨f__law_of, fd__law_of, p__law_of, ok_fn0, PySem.W.mg_of KX G a__law_of, F__law_of.kp, B__law_of⟩
    c__law_mixed := ⟨f__law_mixed, fd__law_mixed, p__law_mixed, ok_fn0, PySem.W.mg_of KX G a__law_mixed, F__law_mixed.kp, B__law_mixed⟩
    c__law_same := ⟨f__law_same, fd__law_same, p__law_same, ok_fn0, PySem.W.mg_of KX G a__law_same, F__law_same.kp, B__law_same⟩
    c__law_plus := ⟨f__law_plus, fd__law_plus, p__law_plus, ok_fn0, PySem.W.mg_of KX G a__law_plus, F__law_plus.kp, B__law_plus⟩
    c__law_often := ⟨f__law_often, fd__law_often, p__law_often, ok_fn0, PySem.W.mg_of KX G a__law_often, F__law_often.kp, B__law_often⟩
    c__law_move := ⟨f__law_move, fd__law_move, p__law_move, ok_fn0, PySem.W.mg_of KX G a__law_move, F__law_move.kp, B__law_move⟩
    c__law_house := ⟨f__law_house, fd__law_house, p__law_house, ok_fn0, PySem.W.mg_of KX G a__law_house, F__law_house.kp, B__law_house⟩
    c__law_divisor := ⟨f__law_divisor, fd__law_divisor, p__law_divisor, ok_fn0, PySem.W.mg_of KX G a__law_divisor, F__law_divisor.kp, B__law_divisor⟩
    c__law_gaps := ⟨f__law_gaps, fd__law_gaps, p__law_gaps, ok_fn0, PySem.W.mg_of KX G a__law_gaps, F__law_gaps.kp, B__law_gaps⟩
    c__law_loops := ⟨f__law_loops, fd__law_loops, p__law_loops, ok_fn0, PySem.W.mg_of KX G a__law_loops, F__law_loops.kp, B__law_loops⟩
    c__law_minors := ⟨f__law_minors, fd__law_minors, p__law_minors, ok_fn0, PySem.W.mg_of KX G a__law_minors, F__law_minors.kp, B__law_minors⟩
    c__law_is_sum := ⟨f__law_is_sum, fd__law_is_sum, p__law_is_sum, ok_fn0, PySem.W.mg_of KX G a__law_is_sum, F__law_is_sum.kp, B__law_is_sum⟩
    c__law_is_down := ⟨f__law_is_down, fd__law_is_down, p__law_is_down, ok_fn0, PySem.W.mg_of KX G a__law_is_down, F__law_is_down.kp, B__law_is_down⟩
    c__law_by_hand_right := ⟨f__law_by_hand_right, fd__law_by_hand_right, p__law_by_hand_right, ok_fn0, PySem.W.mg_of KX G a__law_by_hand_right, F__law_by_hand_right.kp, B__law_by_hand_right⟩
    c__law_right := ⟨f__law_right, fd__law_right, p__law_right, ok_fn0, PySem.W.mg_of KX G a__law_right, F__law_right.kp, B__law_right⟩
    c_law := ⟨f_law, fd_law, p_law, ok_fn0, PySem.W.mg_of KX G a_law, F_law.kp, B_law⟩ }
  | succ k ih => exact {
    g_abs := PySem.W.mg_none_of KX G Y.z_abs
    g_all := PySem.W.mg_none_of KX G Y.z_all
    g_any := PySem.W.mg_none_of KX G Y.z_any
    g_bool := PySem.W.mg_none_of KX G Y.z_bool
    g_enumerate := PySem.W.mg_none_of KX G Y.z_enumerate
    g_int := PySem.W.mg_none_of KX G Y.z_int
    g_isinstance := PySem.W.mg_none_of KX G Y.z_isinstance
    g_len := PySem.W.mg_none_of KX G Y.z_len
    g_list := PySem.W.mg_none_of KX G Y.z_list
    g_max := PySem.W.mg_none_of KX G Y.z_max
    g_range := PySem.W.mg_none_of KX G Y.z_range
    g_sorted := PySem.W.mg_none_of KX G Y.z_sorted
    g_str := PySem.W.mg_none_of KX G Y.z_str
    g_tuple := PySem.W.mg_none_of KX G Y.z_tuple
    g_zip := PySem.W.mg_none_of KX G Y.z_zip
    k_MOST_ROOMS := Y.k_MOST_ROOMS.cst KX G
    k_MOST_SPEED := Y.k_MOST_SPEED.cst KX G
    k_MOST_STEPS := Y.k_MOST_STEPS.cst KX G
    x_Unfit := Y.x_Unfit.bare KX G
    ck_loop_moves_0 := ⟨f_loop_moves, fd_loop_moves, p_loop_moves, d_loop_moves ih F_loop_moves, PySem.W.mg_of KX G a_loop_moves, F_loop_moves.kp, KB_loop_moves_0⟩
    ck_room_gaps_0 := ⟨f_room_gaps, fd_room_gaps, p_room_gaps, d_room_gaps ih F_room_gaps, PySem.W.mg_of KX G a_room_gaps, F_room_gaps.kp, KB_room_gaps_0⟩
    c_is_number := ⟨f_is_number, fd_is_number, p_is_number, d_is_number ih F_is_number, PySem.W.mg_of KX G a_is_number, F_is_number.kp, B_is_number⟩
    c_is_within := ⟨f_is_within, fd_is_within, p_is_within, d_is_within ih F_is_within, PySem.W.mg_of KX G a_is_within, F_is_within.kp, B_is_within⟩
    c_sure_within := ⟨f_sure_within, fd_sure_within, p_sure_within, d_sure_within ih F_sure_within, PySem.W.mg_of KX G a_sure_within, F_sure_within.kp, B_sure_within⟩
    c_is_long := ⟨f_is_long, fd_is_long, p_is_long, d_is_long ih F_is_long, PySem.W.mg_of KX G a_is_long, F_is_long.kp, B_is_long⟩
    c_are_numbers := ⟨f_are_numbers, fd_are_numbers, p_are_numbers, d_are_numbers ih F_are_numbers, PySem.W.mg_of KX G a_are_numbers, F_are_numbers.kp, B_are_numbers⟩
    c_tupled := ⟨f_tupled, fd_tupled, p_tupled, d_tupled ih F_tupled, PySem.W.mg_of KX G a_tupled, F_tupled.kp, B_tupled⟩
    c_is_move := ⟨f_is_move, fd_is_move, p_is_move, d_is_move ih F_is_move, PySem.W.mg_of KX G a_is_move, F_is_move.kp, B_is_move⟩
    c_taken := ⟨f_taken, fd_taken, p_taken, d_taken ih F_taken, PySem.W.mg_of KX G a_taken, F_taken.kp, B_taken⟩
    c_often := ⟨f_often, fd_often, p_often, d_often ih F_often, PySem.W.mg_of KX G a_often, F_often.kp, B_often⟩
    c_is_step_of := ⟨f_is_step_of, fd_is_step_of, p_is_step_of, d_is_step_of ih F_is_step_of, PySem.W.mg_of KX G a_is_step_of, F_is_step_of.kp, B_is_step_of⟩
    c_is_house_of := ⟨f_is_house_of, fd_is_house_of, p_is_house_of, d_is_house_of ih F_is_house_of, PySem.W.mg_of KX G a_is_house_of, F_is_house_of.kp, B_is_house_of⟩
    c_sure_house := ⟨f_sure_house, fd_sure_house, p_sure_house, d_sure_house ih F_sure_house, PySem.W.mg_of KX G a_sure_house, F_sure_house.kp, B_sure_house⟩
    c_less_in := ⟨f_less_in, fd_less_in, p_less_in, d_less_in ih F_less_in, PySem.W.mg_of KX G a_less_in, F_less_in.kp, B_less_in⟩
    c_turned_about := ⟨f_turned_about, fd_turned_about, p_turned_about, d_turned_about ih F_turned_about, PySem.W.mg_of KX G a_turned_about, F_turned_about.kp, B_turned_about⟩
    c_divided_on := ⟨f_divided_on, fd_divided_on, p_divided_on, d_divided_on ih F_divided_on, PySem.W.mg_of KX G a_divided_on, F_divided_on.kp, B_divided_on⟩
    c_lattice_in := ⟨f_lattice_in, fd_lattice_in, p_lattice_in, d_lattice_in ih F_lattice_in, PySem.W.mg_of KX G a_lattice_in, F_lattice_in.kp, B_lattice_in⟩
    c_brought_down := ⟨f_brought_down, fd_brought_down, p_brought_down, d_brought_down ih F_brought_down, PySem.W.mg_of KX G a_brought_down, F_brought_down.kp, B_brought_down⟩
    c_told_in := ⟨f_told_in, fd_told_in, p_told_in, d_told_in ih F_told_in, PySem.W.mg_of KX G a_told_in, F_told_in.kp, B_told_in⟩
    c_sure_room := ⟨f_sure_room, fd_sure_room, p_sure_room, d_sure_room ih F_sure_room, PySem.W.mg_of KX G a_sure_room, F_sure_room.kp, B_sure_room⟩
    c_moves_of := ⟨f_moves_of, fd_moves_of, p_moves_of, d_moves_of ih F_moves_of, PySem.W.mg_of KX G a_moves_of, F_moves_of.kp, B_moves_of⟩
    c_loop_moves := ⟨f_loop_moves, fd_loop_moves, p_loop_moves, d_loop_moves ih F_loop_moves, PySem.W.mg_of KX G a_loop_moves, F_loop_moves.kp, B_loop_moves⟩
    c_room_gaps := ⟨f_room_gaps, fd_room_gaps, p_room_gaps, d_room_gaps ih F_room_gaps, PySem.W.mg_of KX G a_room_gaps, F_room_gaps.kp, B_room_gaps⟩
    c__law_box := ⟨f__law_box, fd__law_box, p__law_box, d__law_box ih F__law_box, PySem.W.mg_of KX G a__law_box, F__law_box.kp, B__law_box⟩
    c__law_take := ⟨f__law_take, fd__law_take, p__law_take, d__law_take ih F__law_take, PySem.W.mg_of KX G a__law_take, F__law_take.kp, B__law_take⟩
    c__law_cells := ⟨f__law_cells, fd__law_cells, p__law_cells, d__law_cells ih F__law_cells, PySem.W.mg_of KX G a__law_cells, F__law_cells.kp, B__law_cells⟩
    c__law_of := ⟨f__law_of, fd__law_of, p__law_of, d__law_of ih F__law_of, PySem.W.mg_of KX G a__law_of, F__law_of.kp, B__law_of⟩
    c__law_mixed := ⟨f__law_mixed, fd__law_mixed, p__law_mixed, d__law_mixed ih F__law_mixed, PySem.W.mg_of KX G a__law_mixed, F__law_mixed.kp, B__law_mixed⟩
    c__law_same := ⟨f__law_same, fd__law_same, p__law_same, d__law_same ih F__law_same, PySem.W.mg_of KX G a__law_same, F__law_same.kp, B__law_same⟩
    c__law_plus := ⟨f__law_plus, fd__law_plus, p__law_plus, d__law_plus ih F__law_plus, PySem.W.mg_of KX G a__law_plus, F__law_plus.kp, B__law_plus⟩
    c__law_often := ⟨f__law_often, fd__law_often, p__law_often, d__law_often ih F__law_often, PySem.W.mg_of KX G a__law_often, F__law_often.kp, B__law_often⟩
    c__law_move := ⟨f__law_move, fd__law_move, p__law_move, d__law_move ih F__law_move, PySem.W.mg_of KX G a__law_move, F__law_move.kp, B__law_move⟩
    c__law_house := ⟨f__law_house, fd__law_house, p__law_house, d__law_house ih F__law_house, PySem.W.mg_of KX G a__law_house, F__law_house.kp, B__law_house⟩
    c__law_divisor := ⟨f__law_divisor, fd__law_divisor, p__law_divisor, d__law_divisor ih F__law_divisor, PySem.W.mg_of KX G a__law_divisor, F__law_divisor.kp, B__law_divisor⟩
    c__law_gaps := ⟨f__law_gaps, fd__law_gaps, p__law_gaps, d__law_gaps ih F__law_gaps, PySem.W.mg_of KX G a__law_gaps, F__law_gaps.kp, B__law_gaps⟩
    c__law_loops := ⟨f__law_loops, fd__law_loops, p__law_loops, d__law_loops ih F__law_loops, PySem.W.mg_of KX G a__law_loops, F__law_loops.kp, B__law_loops⟩
    c__law_minors := ⟨f__law_minors, fd__law_minors, p__law_minors, d__law_minors ih F__law_minors, PySem.W.mg_of KX G a__law_minors, F__law_minors.kp, B__law_minors⟩
    c__law_is_sum := ⟨f__law_is_sum, fd__law_is_sum, p__law_is_sum, d__law_is_sum ih F__law_is_sum, PySem.W.mg_of KX G a__law_is_sum, F__law_is_sum.kp, B__law_is_sum⟩
    c__law_is_down := ⟨f__law_is_down, fd__law_is_down, p__law_is_down, d__law_is_down ih F__law_is_down, PySem.W.mg_of KX G a__law_is_down, F__law_is_down.kp, B__law_is_down⟩
    c__law_by_hand_right := ⟨f__law_by_hand_right, fd__law_by_hand_right, p__law_by_hand_right, d__law_by_hand_right ih F__law_by_hand_right, PySem.W.mg_of KX G a__law_by_hand_right, F__law_by_hand_right.kp, B__law_by_hand_right⟩
    c__law_right := ⟨f__law_right, fd__law_right, p__law_right, d__law_right ih F__law_right, PySem.W.mg_of KX G a__law_right, F__law_right.kp, B__law_right⟩
    c_law := ⟨f_law, fd_law, p_law, d_law ih F_law, PySem.W.mg_of KX G a_law, F_law.kp, B_law⟩ }
def Plain : Prop := ∀ (C_Unfit : Addr) (ns : List Int), ns.length ≤ 63 → (∀ z ∈ ns, Builtin.Int.intBits z ≤ 1048576) → ∃ S, tb C_Unfit 60 40 [.scr (ns.map .int)] [] = .some (.bl true, S)
theorem all_mk (plain : Plain) {l : PySem.W.OpenLaw} {w : World} {K : PySem.W.Frag} {h : Heap} {mg : Str → Option Value} {fa : Addr} {C_Unfit : Addr} (KX : K.In h) (G : h.Ns mainGlobals mg) (hfa : mg "law" = some (.ref fa)) (Y : Whole K C_Unfit) :
    ∃ fd : FuncData, (∀ (s : Shared) (v : Value), BindsTo s fd ⟨[v], []⟩ [("script", v)]) ∧ ∀ base : Heap, K.In base → base.Ns mainGlobals mg → FnOk l.prog w K mg base (L2.CX l.prog w) 60 fa fd ["script"] (spLaw K) := by
  obtain ⟨f1, fd1, a1, F1⟩ := Y.h_law.ex
  have e : fa = f1 := by
    have := hfa.symm.trans (PySem.W.mg_of KX G a1)
    injection this with this
    injection this
  subst e
  obtain ⟨oc, od, kV, doc, pm, an, cdv, ct, osl, rfl, lk, hcd⟩ := F1.ex
  refine ⟨PySem.W.fnOf "law" "law" (defArgs (top 49)) (defBody (top 49)) (defScope (top 49)) .none kV doc pm an cdv ct, fun s v => .of_eq rfl, fun base _ _ => ?_⟩
  exact (d_law (tab Y KX G 59) F1).imp (spLaw_imp fun ns hl hb => plain _ ns hl hb)
end K54
set_option Elab.async false
set_option linter.all false
set_option maxRecDepth 100000
set_option maxHeartbeats 1000000
namespace P54
open PySem PySem.Spec PyProof.Rows L2 MD K54
theorem mulx {i j : Int} {a b : Nat} (ha : i.natAbs < 2 ^ a) (hb : j.natAbs < 2 ^ b) (h : a + b ≤ 134217728) : cMulX i j = true := by
  unfold cMulX
  exact decide_eq_true (L2.mulx_ok ha hb h)
theorem divx {i j : Int} {a : Nat} (h0 : j ≠ 0) (ha : j.natAbs < 2 ^ a) (h : a ≤ 9000) : cDivX i j = true := by
  unfold cDivX
  rw [Bool.and_eq_true]
  refine ⟨decide_eq_true h0, decide_eq_true ?_⟩
  exact Nat.lt_of_lt_of_le ((Nat.log2_lt (by omega)).mpr ha) h
/-- the source of draws -/
def Bx (S : Store) (n m : Nat) : Prop := ∃ x y z : Int, S[n]? = some (.lst [.int x, .int y, .int z]) ∧ 0 ≤ y ∧ y < 2 ^ 62 ∧ 0 ≤ z ∧ z ≤ m
structure Keep (n : Nat) (S S' : Store) : Prop where
  len : S'.length = S.length
  at_ : ∀ j, j ≠ n → S'[j]? = S[j]?
theorem keep_set {n : Nat} {S : Store} {o : O} : Keep n S (S.set n o) := ⟨List.length_set, fun j h => List.getElem?_set_ne (Ne.symm h)⟩
theorem get_set {n : Nat} {S : Store} {o o' : O} (h : S[n]? = some o) : (S.set n o')[n]? = some o' := by
  rw [List.getElem?_set_self (List.getElem?_eq_some_iff.mp h).1]
theorem gSet_ref {n : Nat} {S : Store} {l : List D} {i : Int} {v : D} {j : Nat} (h : S[n]? = some (.lst l)) (hj : ixN l.length i = some j) : gSet S (.ref n) (.int i) v = some (S.set n (.lst (l.set j v))) := by
  unfold gSet ownL
  simp only [h, hj, Option.map_some]
theorem take_ok (C : Addr) (k n m : Nat) (S : Store) (b : Int) (hb : 0 < b) (hb2 : b < 2 ^ 40) (hm : m < 2 ^ 40) (h : Bx S n m) :
    ∃ d S', 0 ≤ d ∧ d < b ∧ callT 2 (tb C (k + 1) 23) [.ref n, .int b] S = .some (.int d, S') ∧ Bx S' n (m + 1) ∧ Keep n S S' := by
  obtain ⟨x, y, z, hS, y0, y1, z0, z1⟩ := h
  have hb0 : b ≠ 0 := by omega
  by_cases hx : 0 < x
  · refine ⟨x.fmod b, S.set n (.lst [.int (x.fdiv b), .int y, .int z]), Int.fmod_nonneg_of_pos _ hb, Int.fmod_lt_of_pos _ hb, ?_, ⟨_, y, z, get_set hS, y0, y1, z0, by omega⟩, keep_set⟩
    refine callT_of rfl (mkF_rt (S1 := S.set n (.lst [.int (x.fdiv b), .int y, .int z])) (?_ : b__law_take C (tb C k) (startE 6 [D.ref n, D.int b]) S = _))
    have hd : cDivX x b = true := divx hb0 (a := 40) (by omega) (by decide)
    show b__law_take C (tb C k) [some (.ref n), some (.int b), none, none, none, none] S = _
    unfold b__law_take
    simp_arith [hS, hx, ev_mod hb0, ev_div hd]
  · have hx2 : ¬ (0 : Int) < x := hx
    generalize hS1 : S.set n (.lst [.int x, .int y, .int (z + 1)]) = S1
    have hS2 : S1[n]? = some (.lst [.int x, .int y, .int (z + 1)]) := by rw [← hS1]; exact get_set hS
    have c1 : cMulX 48271 (z + 1) = true := mulx (a := 20) (b := 41) (by decide) (by omega) (by decide)
    have c2 : cMulX (y + 48271 * (z + 1)) (39373 + (z + 1)) = true := mulx (a := 70) (b := 42) (by omega) (by omega) (by decide)
    generalize e1 : ((y + 48271 * (z + 1)) * (39373 + (z + 1))).fmod 2147483647 = once
    have o1 : 0 ≤ once := by rw [← e1]; exact Int.fmod_nonneg_of_pos _ (by decide)
    have o2 : once < 2147483647 := by rw [← e1]; exact Int.fmod_lt_of_pos _ (by decide)
    generalize e2 : once.fmod 40009 + 7 = wide
    have w1 : 0 ≤ wide := by have := Int.fmod_nonneg_of_pos once (show (0 : Int) < 40009 by decide); omega
    have w2 : wide < 40016 := by have := Int.fmod_lt_of_pos once (show (0 : Int) < 40009 by decide); omega
    have q1 : 0 ≤ y.fdiv 1000003 := Int.fdiv_nonneg y0 (by decide)
    have q2 : y.fdiv 1000003 ≤ y := by rw [Int.fdiv_eq_ediv_of_nonneg _ (by decide)]; exact Int.ediv_le_self _ y0
    have c3 : cMulX (once + (z + 1) + y.fdiv 1000003) wide = true := mulx (a := 70) (b := 20) (by omega) (by omega) (by decide)
    generalize e3 : ((once + (z + 1) + y.fdiv 1000003) * wide).fmod 2147483629 = twice
    have t1 : 0 ≤ twice := by rw [← e3]; exact Int.fmod_nonneg_of_pos _ (by decide)
    have t2 : twice < 2147483629 := by rw [← e3]; exact Int.fmod_lt_of_pos _ (by decide)
    have c4 : cMulX twice 48271 = true := mulx (a := 40) (b := 20) (by omega) (by decide) (by decide)
    refine ⟨(((twice * 48271 + once).fmod 2147483587).fdiv 64).fmod b, S1, Int.fmod_nonneg_of_pos _ hb, Int.fmod_lt_of_pos _ hb, ?_, ⟨x, y, z + 1, hS2, y0, y1, by omega, by omega⟩, by rw [← hS1]; exact keep_set⟩
    have d1 : cDivX y 1000003 = true := divx (by decide) (a := 20) (by decide) (by decide)
    refine callT_of rfl (mkF_rt (S1 := S1) (?_ : b__law_take C (tb C k) (startE 6 [D.ref n, D.int b]) S = _))
    show b__law_take C (tb C k) [some (.ref n), some (.int b), none, none, none, none] S = _
    unfold b__law_take
    generalize hthr : (twice * 48271 + once).fmod 2147483587 = thr
    have d2 : cDivX thr 64 = true := divx (by decide) (a := 7) (by decide) (by decide)
    have n1 : (2147483647 : Int) ≠ 0 := by decide
    have n2 : (40009 : Int) ≠ 0 := by decide
    have n3 : (2147483629 : Int) ≠ 0 := by decide
    have n4 : (2147483587 : Int) ≠ 0 := by decide
    simp_arith [hS, hS2, hx2, hS1, ev_mul c1, ev_mul c2, ev_mul c3, ev_mul c4, ev_mod n1, ev_mod n2, ev_mod n3, ev_mod n4, ev_mod hb0, ev_div d1, ev_div d2, e1, e2, e3, hthr]
end P54
set_option Elab.async false
set_option linter.all false
set_option maxRecDepth 100000
set_option maxHeartbeats 1000000
namespace P54
open PySem PySem.Spec PyProof.Rows L2 MD K54 LT
variable {C : Addr} {k : Nat} {S : Store}
/-! ### numbers, tuples, pairs -/
def vD (v : V2) : D := .tup [.int v.1, .int v.2]
theorem num_int {i : Int} : callP 1 (tb C (k + 1) 0) [.int i] S = .some (.bl true, S) :=
  callP_def (b := b_is_number C (tb C k)) rfl rfl (by simp_arith) (by simp_arith [b_is_number]; rfl) (by simp_arith)
theorem within_int {i a b : Int} : callP 3 (tb C (k + 2) 1) [.int i, .int a, .int b] S = .some (.bl (decide (a ≤ i) && decide (i ≤ b)), S) :=
  callP_def (b := b_is_within C (tb C (k + 1))) rfl rfl (by simp_arith) (by simp_arith [b_is_within, num_int]; rfl) (by simp_arith)
theorem sure_int {i a b : Int} (h : a ≤ i) (h2 : i ≤ b) : callP 3 (tb C (k + 3) 2) [.int i, .int a, .int b] S = .some (.int i, S) :=
  callP_def (b := b_sure_within C (tb C (k + 2))) rfl rfl (by simp_arith) (by simp_arith [b_sure_within, within_int, h, h2]; rfl) (by simp_arith)
theorem long_tup {l : List D} {n : Int} (hn : noRefs l = true) : callP 2 (tb C (k + 1) 3) [.tup l, .int n] S = .some (.bl (decide ((l.length : Int) = n)), S) :=
  callP_def (b := b_is_long C (tb C k)) rfl rfl (by simp_arith [hn]) (by simp_arith [b_is_long]; rfl) (by simp_arith)
theorem numbers_tup {l : List Int} (h : l.length ≤ 1000) : callP 1 (tb C (k + 2) 4) [.tup (l.map .int)] S = .some (.bl true, S) := by
  have hc : ∀ e0 : MD.Env, e0 = [some (D.tup (l.map .int)), none] → compL (tgName 1) mYes (mCallP 1 (tb C (k + 1) 0) (mCons (mVar 1) mNil)) e0 (l.map .int) [] = .some (l.map fun _ => .bl true, []) := by
    rintro e0 rfl
    exact compL_all fun x _ => ⟨_, rfl, by simp_arith [num_int]⟩
  have hf : fits (l.map fun _ => D.bl true) [] = .some (l.map fun _ => .bl true, []) := fits_of (sizeLine_ge (by simp; omega))
  have hb : blsOf (l.map fun _ => D.bl true) = some (l.map fun _ => true) := blsOf_map fun _ _ => rfl
  have ht : (l.map fun _ => true).all id = true := by simp
  exact callP_def (b := b_are_numbers C (tb C (k + 1))) rfl rfl (by simp_arith) (by simp_arith [b_are_numbers, hc, hf, hb, ht]; rfl) (by simp_arith)
theorem is_move_v {v : V2} : callP 1 (tb C (k + 3) 6) [vD v] S = .some (.bl true, S) := by
  have h := fun S => numbers_tup (C := C) (k := k) (S := S) (l := [v.1, v.2]) (by simp)
  simp only [List.map_cons, List.map_nil] at h
  exact callP_def (b := b_is_move C (tb C (k + 2))) rfl rfl (by simp_arith [vD]) (by simp_arith [b_is_move, vD, long_tup (show noRefs [D.int v.1, D.int v.2] = true by simp_arith), h, List.length_cons, List.length_nil]; rfl) (by simp_arith)
theorem taken_v {v w : V2} : callP 2 (tb C (k + 1) 7) [vD v, vD w] S = .some (vD (v.1 - w.1, v.2 - w.2), S) :=
  callP_def (b := b_taken C (tb C k)) rfl rfl (by simp_arith [vD]) (by simp_arith [b_taken, vD]; rfl) (by simp_arith [vD])
theorem often_v {m : Int} {v : V2} (h : cMulX m v.1 = true) (h2 : cMulX m v.2 = true) : callP 2 (tb C (k + 1) 8) [.int m, vD v] S = .some (vD (m * v.1, m * v.2), S) :=
  callP_def (b := b_often C (tb C k)) rfl rfl (by simp_arith [vD]) (by simp_arith [b_often, vD, ev_mul h, ev_mul h2]; rfl) (by simp_arith [vD])
end P54
set_option Elab.async false
set_option linter.all false
set_option maxRecDepth 100000
set_option maxHeartbeats 1000000
namespace P54
open PySem PySem.Spec PyProof.Rows L2 MD K54 LT
variable {C : Addr} {k : Nat} {S : Store}
/-! ### pairs (MOVE, row) -/
def iD (l : List Int) : D := .tup (l.map .int)
def oD (o : Own) : D := .tup [vD o.1, iD o.2]
theorem nr_v {v : V2} : noRef (vD v) = true := by simp_arith [vD]
theorem nr_i {l : List Int} : noRef (iD l) = true := by simp_arith [iD]
theorem nr_o {o : Own} : noRef (oD o) = true := by simp_arith [oD, nr_v, nr_i]
theorem cM {i j : Int} {a b : Nat} (ha : i.natAbs < 2 ^ a) (hb : j.natAbs < 2 ^ b) (h : a + b ≤ 100000000) : cMulX i j = true := mulx ha hb (by omega)
theorem less_in_o {x y : Own} {q : Int} {a b : Nat} (hq : q.natAbs < 2 ^ a) (h1 : bM b y) (h2 : bR b y) (hab : a + b ≤ 100000000) (hl : x.2.length ≤ 1000) :
    callP 3 (tb C (k + 2) 12) [oD x, oD y, .int q] S = .some (oD (lessO x y q), S) := by
  have hc : ∀ S0 : Store, ∀ e0 : MD.Env, e0 = [some (oD x), some (oD y), some (.int q), none, none, none] →
      compL (tgTup 2 (tgCons (tgName 4) (tgCons (tgName 5) tgNil))) mYes (mOp2 gSubI (mVar 4) (mOp2 gMul (mVar 2) (mVar 5))) e0 (zipD (x.2.map .int) (y.2.map .int)) S0 = .some ((List.zipWith (fun n f => n - q * f) x.2 y.2).map .int, S0) := by
    rintro S0 e0 rfl
    rw [zipD_map, compL_all (f := fun p : Int × Int => .int (p.1 - q * p.2)) fun p hp => ?_]
    · rw [← List.map_uncurry_zip_eq_zipWith, List.map_map]
      rfl
    · have hm := List.of_mem_zip (a := p.1) (b := p.2) hp
      have hmul : cMulX q p.2 = true := cM hq (h2 p.2 hm.2) hab
      exact ⟨_, rfl, by simp_arith [ev_mul hmul]⟩
  have hf : ∀ S0 : Store, fits ((List.zipWith (fun n f => n - q * f) x.2 y.2).map .int) S0 = .some ((List.zipWith (fun n f => n - q * f) x.2 y.2).map .int, S0) := fun _ => fits_of (sizeLine_ge (by simp; omega))
  have ho : ∀ S0, callP 2 (tb C (k + 1) 8) [.int q, vD y.1] S0 = .some (vD (q * y.1.1, q * y.1.2), S0) := fun S0 => often_v (cM hq (h1 _ (.inl rfl)) hab) (cM hq (h1 _ (.inr rfl)) hab)
  have ht : ∀ S0, callP 2 (tb C (k + 1) 7) [vD x.1, vD (q * y.1.1, q * y.1.2)] S0 = .some (vD (lessO x y q).1, S0) := fun S0 => taken_v
  refine callP_def (S2 := []) (b := b_less_in C (tb C (k + 1))) rfl rfl (by simp_arith [nr_o]) ?_ nr_o
  simp only [oD, iD] at hc
  simp_arith [b_less_in, oD, iD, hc, hf, ho, ht]
  rfl
theorem turned_o {x : Own} (h1 : bM 1000 x) (hl : x.2.length ≤ 1000) : callP 1 (tb C (k + 2) 13) [oD x] S = .some (oD (negO x), S) := by
  have hc : ∀ S0 : Store, ∀ e0 : MD.Env, e0 = [some (oD x), none] → compL (tgName 1) mYes (mOp1 gNeg (mVar 1)) e0 (x.2.map .int) S0 = .some ((x.2.map fun i => -i).map .int, S0) := by
    rintro S0 e0 rfl
    rw [compL_all (f := fun p : Int => .int (-p)) fun p hp => ⟨_, rfl, by simp_arith⟩, List.map_map]
    rfl
  have hf : ∀ S0 : Store, fits ((x.2.map fun i => -i).map .int) S0 = .some ((x.2.map fun i => -i).map .int, S0) := fun _ => fits_of (sizeLine_ge (by simp; omega))
  have ho : ∀ S0, callP 2 (tb C (k + 1) 8) [.int (-1), vD x.1] S0 = .some (vD (negO x).1, S0) := fun S0 => often_v (cM (a := 1) (by decide) (h1 _ (.inl rfl)) (by decide)) (cM (a := 1) (by decide) (h1 _ (.inr rfl)) (by decide))
  refine callP_def (S2 := []) (b := b_turned_about C (tb C (k + 1))) rfl rfl (by simp_arith [nr_o]) ?_ nr_o
  simp only [oD, iD] at hc
  simp_arith [b_turned_about, oD, iD, hc, hf, ho]
  rfl
def plI (pl : Bool) : Int := if pl then 1 else 0
theorem at_val {o : Own} {pl : Bool} : atI [D.int o.1.1, D.int o.1.2] (plI pl) = some (.int (val pl o)) := by cases pl <;> rfl
theorem divided_o {x y : Own} {pl : Bool} {n p A B : Nat} (lx : x.2.length = n) (ly : y.2.length = n) (vx : (val pl x).natAbs < 2 ^ p) (vy : (val pl y).natAbs < 2 ^ p) (h1 : bM A x) (h2 : bM A y) (h3 : bR B x) (h4 : bR B y)
    (hn : n ≤ 1000) (hp : p ≤ 9000) (hA : A ≤ 1000000) (hB : B ≤ 1000000) :
    ∃ x' y', callP 3 (tb C (k + 3) 14) [oD x, oD y, .int (plI pl)] S = .some (.tup [oD x', oD y'], S) ∧ val pl y' = 0 ∧ (val pl y ≠ 0 ∨ val pl x ≠ 0 → val pl x' ≠ 0) ∧ x'.2.length = n ∧ y'.2.length = n ∧ (val pl x').natAbs < 2 ^ p ∧
      bM (A + 3 * p + 4) x' ∧ bM (A + 3 * p + 4) y' ∧ bR (B + 3 * p + 4) x' ∧ bR (B + 3 * p + 4) y' ∧ ∀ P, Clo n P → (P x ∧ P y ↔ P x' ∧ P y') := by
  obtain ⟨e2, S2, m2, hr, hc, x', y', rfl, rfl, hI⟩ := runWhile_inv (c := mTest (mOp2 gNe (mOp2 gSub (mOp2 gSub (mVar 1) (mC (.int 0))) (mVar 2)) (mC (.int 0))))
    (b := msPar 0 1 (mCons (mVar 1) (mCons (mCallP 3 (tb C (k + 2) 12) (mCons (mVar 0) (mCons (mVar 1) (mCons (mOp2 gDiv (mOp2 gSub (mOp2 gSub (mVar 0) (mC (.int 0))) (mVar 2)) (mOp2 gSub (mOp2 gSub (mVar 1) (mC (.int 0))) (mVar 2))) mNil)))) mNil)))
    (fun m e S0 => ∃ x' y' : Own, e = [some (oD x'), some (oD y'), some (.int (plI pl))] ∧ S0 = [] ∧ DI n p A B m pl x y x' y')
    (by
      rintro m e S0 ⟨x', y', rfl, rfl, hI⟩
      by_cases hy : val pl y' = 0
      · left
        simp_arith [oD, vD, at_val, hy]
      · right
        refine ⟨by simp_arith [oD, vD, at_val, hy], _, _, m - 1, ?_, .inl ?_, _, _, rfl, rfl, (hI.step hy).2.1⟩
        · have := (hI.step hy).1; omega
        · have hd : cDivX (val pl x') (val pl y') = true := divx hy hI.vy hp
          have hq : ((val pl x').fdiv (val pl y')).natAbs < 2 ^ (p + 2) := Nat.lt_of_le_of_lt (hI.step hy).2.2 (Nat.pow_lt_pow_right (by decide) (by omega))
          have hbM := hI.bounds.2.1
          have hbR := hI.bounds.2.2.2
          have hl := fun S0 => less_in_o (C := C) (k := k) (S := S0) (x := x') (y := y') (a := p + 2) (b := max (A + 3 * p + 4) (B + 3 * p + 4)) hq (hbM.mono (by omega)) (hbR.mono (by omega)) (by omega) (by have := hI.lx; omega)
          simp only [oD, vD] at hl
          simp_arith [oD, vD, at_val, ev_div hd, hl])
    1000000 (2 * p + 2) [some (oD x), some (oD y), some (.int (plI pl))] [] (by omega) ⟨x, y, rfl, rfl, DI.first lx ly vx vy h1 h2 h3 h4⟩
  have hz : val pl y' = 0 := by
    by_cases hy : val pl y' = 0
    · exact hy
    · exfalso
      simp_arith [oD, vD, at_val, hy] at hc
      cases hc
  refine ⟨x', y', ?_, hz, fun h => ?_, hI.lx, hI.ly, hI.vx, hI.bounds.1, hI.bounds.2.1, hI.bounds.2.2.1, hI.bounds.2.2.2, hI.eqv⟩
  · refine callP_def (S2 := []) (b := b_divided_on C (tb C (k + 2))) rfl rfl (by simp_arith [nr_o]) ?_ (by simp_arith [nr_o])
    simp_arith [b_divided_on, hr]
  · rcases hI.nz (by rcases h with h | h; exact .inr h; exact .inl h) with h | h
    · exact h
    · exact absurd hz h
end P54
set_option Elab.async false
set_option linter.all false
set_option maxRecDepth 100000
set_option maxHeartbeats 1000000
set_option exponentiation.threshold 2000
namespace P54
open PySem PySem.Spec PyProof.Rows L2 MD K54 LT
variable {C : Addr} {k : Nat} {S : Store}
def optD : Option Own → D
  | none => .non
  | some o => oD o
theorem nr_opt {f : Option Own} : noRef (optD f) = true := by
  cases f
  · rfl
  · exact nr_o
theorem isNon_o {o : Own} : isNon (oD o) = false := rfl
theorem o_eq {o : Own} : oD o = .tup [.tup [.int o.1.1, .int o.1.2], iD o.2] := rfl
theorem optS {o : Own} : optD (some o) = oD o := rfl
theorem opt0 : optD none = .non := rfl
theorem subO {S : Store} {o : Own} : gSub S (oD o) (.int 0) = some (vD o.1) := rfl
theorem subV0 {S : Store} {v : V2} : gSub S (vD v) (.int 0) = some (.int v.1) := rfl
theorem subV1 {S : Store} {v : V2} : gSub S (vD v) (.int 1) = some (.int v.2) := rfl
theorem nrs_o {l : List Own} : noRefs (l.map oD) = true := nrs_map fun _ _ => nr_o
theorem fdiv_bound {x y : Int} {a : Nat} (hy : y ≠ 0) (hx : x.natAbs < 2 ^ a) (h2 : y.natAbs < 2 ^ a) : (x.fdiv y).natAbs < 2 ^ (a + 1) := by
  have q := (eu_any (x := x) hy).2.2
  have q2 := Nat.le_mul_of_pos_right (x.fdiv y).natAbs (show 0 < y.natAbs by omega)
  rw [Nat.pow_succ]
  omega
theorem lattice_o {n : Nat} {ls : List Own} (hn : n ≤ 1000) (h16 : ls.length ≤ 16) (hx : ∀ x ∈ ls, x.2.length = n ∧ bM 7 x ∧ bR 8 x) :
    ∃ d S2, tb C (k + 4) 15 [.lst (ls.map oD)] [] = .some (d, S2) ∧ ∃ f s, d = .tup [optD f, optD s] ∧ LF n ls f s := by
  refine fn_sat (b := b_lattice_in C (tb C (k + 3))) rfl ?_
  simp_arith [b_lattice_in]
  refine sat_for (enc := oD) (fun xs e S0 => ∃ f s u v, e = [some (.lst (ls.map oD)), some (optD f), some (optD s), u, v] ∧ S0 = [] ∧ LI n (ls.length - xs.length) ls xs f s) ?_ ?_ ls _ _ ⟨none, none, none, none, rfl, rfl, by simpa using LI.start⟩
  · rintro x xs e S0 ⟨f, s, u, v, rfl, rfl, hI⟩
    have hub := hI.ub
    rw [List.length_cons] at hub
    generalize hi : ls.length - (x :: xs).length = i at hI
    have hi2 : ls.length - xs.length = i + 1 := by rw [List.length_cons] at hi; omega
    have hi16 : i < 16 := by rw [List.length_cons] at hi; omega
    have hxx := hx x (hI.sub x (List.mem_cons_self ..))
    refine ⟨_, rfl, ?_⟩
    rw [hi2]
    -- the second half of a turn
    have second : ∀ (f : Option Own) (here : Own) (w : Option D), LH n i ls xs f s here →
        Sat (msIf (mTest (mOp2 gNe (mOp2 MD.gSub (mOp2 MD.gSub (mVar 4) (mC (.int 0))) (mC (.int 1))) (mC (.int 0)))) (msAsg (mIte (mTest (mOp2 gIsN (mVar 2) (mC .non))) (mOpN gTup (mCons (mVar 4) (mCons (mVar 4) (mNil)))) (mCallP 3 (tb C (k + 3) 14) (mCons (mVar 2) (mCons (mVar 4) (mCons (mC (.int 1)) (mNil)))))) (tgTup 2 (tgCons (tgName 2) (tgCons (tgName 4) (tgNil))))) (msNil)
          [some (.lst (ls.map oD)), some (optD f), some (optD s), w, some (oD here)] []) fun r => ∃ s' v, r = .nx [some (.lst (ls.map oD)), some (optD f), some (optD s'), w, v] [] ∧ LI n (i + 1) ls xs f s' := by
      intro f here w hH
      by_cases h0 : here.1.2 = 0
      · simp_arith [subO, subV1, h0]
        exact sat_some.mpr ⟨s, _, rfl, hH.done0 h0⟩
      · cases s with
        | none =>
          simp_arith [subO, subV1, h0, opt0]
          exact sat_some.mpr ⟨some here, _, rfl, hH.set h0 hi16⟩
        | some g =>
          obtain ⟨g1, g2, g3, g4, g5⟩ := hH.sl g rfl
          have hh := hH.hl
          have vz : val true here = here.1.2 := rfl
          have gz : val true g = g.1.2 := rfl
          obtain ⟨g', x', hcall, c1, c2, c3, c4, c5, c6, c7, c8, c9, c10⟩ := divided_o (C := C) (k := k) (S := []) (x := g) (y := here) (pl := true) (n := n) (p := 600) (A := 600) (B := 8 + 2000 * i + 25) g1 hh.1 (by rw [gz]; exact g4) (by rw [vz]; exact Nat.lt_of_lt_of_le (hh.2.2.1 _ (.inr rfl)) (pow_le (by omega)))
            (by rintro e (he | he); rw [he, g2]; exact Nat.pow_pos (by decide); rw [he]; exact g4) (hh.2.2.1.mono (by omega)) (g5.mono (by omega)) hh.2.2.2 hn (by decide) (by decide) (by omega)
          have hcall : callP 3 (tb C (k + 3) 14) [oD g, oD here, .int 1] [] = .some (.tup [oD g', oD x'], []) := hcall
          simp_arith [subO, subV1, h0, optS, isNon_o, hcall]
          exact sat_some.mpr ⟨some g', _, rfl, hH.done1 h0 c1 (c2 (.inl h0)) c3 c4 c5 c8 c10⟩
    by_cases h0 : x.1.1 = 0
    · simp_arith [subO, subV0, h0]
      obtain ⟨r, hr, s', v', rfl, hL⟩ := second f x (some (oD x)) (hI.half0 hxx h0)
      exact ⟨_, hr, ⟨f, s', _, v', rfl, rfl, hL⟩⟩
    · cases f with
      | none =>
        simp_arith [subO, subV0, h0, opt0]
        exact sat_some.mpr ⟨some x, s, _, _, rfl, rfl, hI.set hxx h0⟩
      | some g =>
        obtain ⟨g1, g2, g3, g4, g5⟩ := hI.fl g rfl
        obtain ⟨g', x', hcall, c1, c2, c3, c4, c5, c6, c7, c8, c9, c10⟩ := divided_o (C := C) (k := k) (S := []) (x := g) (y := x) (pl := false) (n := n) (p := 7) (A := 7 + 30 * i) (B := 8 + 2000 * i) g1 hxx.1 g3 (hxx.2.1 _ (.inl rfl)) g4 (hxx.2.1.mono (by omega)) g5 (hxx.2.2.mono (by omega)) hn (by decide) (by omega) (by omega)
        have hcall : callP 3 (tb C (k + 3) 14) [oD g, oD x, .int 0] [] = .some (.tup [oD g', oD x'], []) := hcall
        simp_arith [subO, subV0, h0, optS, isNon_o, hcall]
        obtain ⟨r, hr, s', v', rfl, hL⟩ := second (some g') x' (some (oD x)) (hI.half1 hxx h0 c1 (c2 (.inl h0)) c3 c4 c5 c6 c7 c8 c9 c10)
        exact ⟨_, hr, ⟨some g', s', _, v', rfl, rfl, hL⟩⟩
  · rintro e S0 ⟨f, s, u, v, rfl, rfl, hI⟩
    have hE : LE n ls f s := hI.toLE h16
    clear hI
    have hneg : ∀ o : Own, bM 700 o → o.2.length = n → ∀ S, callP 1 (tb C (k + 3) 13) [oD o] S = .some (oD (negO o), S) := fun o ho hl S => turned_o (ho.mono (by decide)) (by omega)
    -- the first one's sign
    have signF : ∃ f', LE n ls f' s ∧ (f' = none ↔ f = none) ∧ (∀ o, f' = some o → 0 < o.1.1) ∧ ∀ e2 : Option D, ∀ e3 : Option D, Sat (msIf (mAnd (mTest (mOp2 gIsntN (mVar 1) (mC .non))) (mTest (mOp2 gLt (mOp2 MD.gSub (mOp2 MD.gSub (mVar 1) (mC (.int 0))) (mC (.int 0))) (mC (.int 0))))) (msAsg (mCallP 1 (tb C (k + 3) 13) (mCons (mVar 1) (mNil))) (tgName 1)) (msNil)
          [some (.lst (ls.map oD)), some (optD f), some (optD s), e2, e3] []) fun r => r = .nx [some (.lst (ls.map oD)), some (optD f'), some (optD s), e2, e3] [] := by
      cases f with
      | none => exact ⟨none, hE, Iff.rfl, (fun _ e => nomatch e), fun e2 e3 => by simp_arith [opt0]; exact sat_some.mpr rfl⟩
      | some o =>
        obtain ⟨a1, a2, a3, a4, a5⟩ := hE.fl o rfl
        by_cases hl : o.1.1 < 0
        · refine ⟨some (negO o), hE.negF, by simp, fun o' e => ?_, fun e2 e3 => ?_⟩
          · rw [← Option.some.inj e]; simp only [negO]; omega
          · simp_arith [optS, isNon_o, subO, subV0, hl, hneg o a4 a1]; exact sat_some.mpr rfl
        · refine ⟨some o, hE, by simp, fun o' e => ?_, fun e2 e3 => ?_⟩
          · rw [← Option.some.inj e]; omega
          · simp_arith [optS, isNon_o, subO, subV0, hl]; exact sat_some.mpr rfl
    obtain ⟨f', hE', hf', hpos, hrun⟩ := signF
    obtain ⟨r, hr, rfl⟩ := hrun u v
    rw [ev_seq, hr, ev_seqS_nx]
    have signS : ∃ s', LE n ls f' s' ∧ (∀ o, s' = some o → 0 < o.1.2) ∧ ∀ e2 : Option D, ∀ e3 : Option D, Sat (msIf (mAnd (mTest (mOp2 gIsntN (mVar 2) (mC .non))) (mTest (mOp2 gLt (mOp2 MD.gSub (mOp2 MD.gSub (mVar 2) (mC (.int 0))) (mC (.int 1))) (mC (.int 0))))) (msAsg (mCallP 1 (tb C (k + 3) 13) (mCons (mVar 2) (mNil))) (tgName 2)) (msNil)
          [some (.lst (ls.map oD)), some (optD f'), some (optD s), e2, e3] []) fun r => r = .nx [some (.lst (ls.map oD)), some (optD f'), some (optD s'), e2, e3] [] := by
      cases s with
      | none => exact ⟨none, hE', (fun _ e => nomatch e), fun e2 e3 => by simp_arith [opt0]; exact sat_some.mpr rfl⟩
      | some o =>
        obtain ⟨a1, a2, a3, a4, a5⟩ := hE'.sl o rfl
        by_cases hl : o.1.2 < 0
        · refine ⟨some (negO o), hE'.negS, fun o' e => ?_, fun e2 e3 => ?_⟩
          · rw [← Option.some.inj e]; simp only [negO]; omega
          · simp_arith [optS, isNon_o, subO, subV1, hl, hneg o hE'.sM a1]; exact sat_some.mpr rfl
        · refine ⟨some o, hE', fun o' e => ?_, fun e2 e3 => ?_⟩
          · rw [← Option.some.inj e]; omega
          · simp_arith [optS, isNon_o, subO, subV1, hl]; exact sat_some.mpr rfl
    obtain ⟨s', hE2, hpos2, hrun2⟩ := signS
    obtain ⟨r, hr2, rfl⟩ := hrun2 u v
    rw [ev_seq, hr2, ev_seqS_nx]
    cases hf2 : f' with
    | none =>
      subst hf2
      simp_arith [opt0]
      exact sat_some.mpr ⟨_, _, rfl, none, s', rfl, hE2.one hpos hpos2 (.inl rfl)⟩
    | some a =>
      subst hf2
      cases hs2 : s' with
      | none =>
        subst hs2
        simp_arith [opt0, optS, isNon_o]
        exact sat_some.mpr ⟨_, _, rfl, some a, none, rfl, hE2.one hpos hpos2 (.inr rfl)⟩
      | some d =>
        subst hs2
        have pa := hpos a rfl
        have pd := hpos2 d rfl
        obtain ⟨a1, a2, a3, a4, a5⟩ := hE2.fl a rfl
        obtain ⟨d1, d2, d3, d4, d5⟩ := hE2.sl d rfl
        have hd : cDivX a.1.2 d.1.2 = true := divx d3 d4 (by decide)
        have hq := fdiv_bound (a := 700) d3 (a4 _ (.inr rfl)) (Nat.lt_of_lt_of_le d4 (pow_le (by decide)))
        have hcall := fun S => less_in_o (C := C) (k := k + 1) (S := S) (x := a) (y := d) hq (hE2.sM.mono (B := 40000) (by decide)) d5 (by decide) (by omega)
        simp_arith [optS, isNon_o, subO, subV1, ev_div hd, hcall]
        exact sat_some.mpr ⟨_, _, rfl, some _, some d, rfl, hE2.two pa pd⟩
end P54
set_option Elab.async false
set_option linter.all false
set_option maxRecDepth 100000
set_option maxHeartbeats 2000000
set_option exponentiation.threshold 2000
namespace P54
open PySem PySem.Spec PyProof.Rows L2 MD K54 LT
variable {C : Addr} {k : Nat} {S : Store}
def stD (s : Stp) : D := .tup [.int s.1, vD s.2.1, .int s.2.2]
def hoD (n : Nat) (st : List Stp) : D := .tup [.int (n : Int), .tup (st.map stD)]
theorem nr_st {s : Stp} : noRef (stD s) = true := by simp_arith [stD, nr_v]
theorem nr_ho {n : Nat} {st : List Stp} : noRef (hoD n st) = true := by simp_arith [hoD, nrs_map fun _ _ => nr_st]
def kD (kn : Kn) : List (Key × D) := kn.map fun p => (.inl p.1, oD p.2)
theorem inl_inj {a b : Int} : ((.inl a : Key) = .inl b) = (a = b) := propext ⟨fun h => Sum.inl.inj h, fun h => by rw [h]⟩
theorem look_k {kn : Kn} {i : Int} : look (kD kn) (.inl i) = (lkp kn i).map oD := by
  unfold look kD lkp
  rw [List.find?_map]
  simp only [Function.comp_def, inl_inj, Option.map_map]
theorem has_k {kn : Kn} {i : Int} : has (kD kn) (.inl i) = decide (i ∈ kys kn) := by
  unfold has kD kys
  rw [List.any_map]
  rw [Bool.eq_iff_iff]
  simp [inl_inj, Function.comp_def]
theorem put_k {kn : Kn} {i : Int} {o : Own} (h : i ∉ kys kn) : putD (kD kn) (.inl i) (oD o) = kD (kn ++ [(i, o)]) := by
  rw [putD_new (by rw [has_k]; exact decide_eq_false h)]
  simp [kD]
theorem kD_len {kn : Kn} : (kD kn).length = kn.length := by simp [kD]
def oL (kn : Kn) : List D := (kys kn).map .int
theorem oL_add {kn : Kn} {i : Int} {o : Own} : oL kn ++ [.int i] = oL (kn ++ [(i, o)]) := by simp [oL, kys]
theorem oL_len {kn : Kn} : (oL kn).length = kn.length := by simp [oL, kys]
theorem unit_comp {many : Nat} {i : Int} {S0 : Store} {a0 a1 a2 a3 a4 a5 a6 a7 a9 a10 a12 : Option D} :
    compL (tgName 11) mYes (mIte (mTest (mOp2 gEq (mVar 11) (mVar 8))) (mC (.int 1)) (mC (.int 0))) [a0, a1, a2, a3, a4, a5, a6, a7, some (.int i), a9, a10, none, a12] (rngD 0 many) S0 = .some ((unitL many i).map .int, S0) := by
  rw [rngD_map, compL_all (f := fun j : Nat => .int (if (j : Int) = i then 1 else 0)) fun j _ => ?_]
  · unfold unitL
    rw [List.map_map]
    rfl
  · refine ⟨_, rfl, ?_⟩
    simp_arith [pickE]
    by_cases h : (j : Int) = i <;> simp [h]
theorem unit_fits {many : Nat} {i : Int} {S0 : Store} (h : many ≤ 1000) : fits ((unitL many i).map .int) S0 = .some ((unitL many i).map .int, S0) := fits_of (sizeLine_ge (by simp [unitL]; omega))
def toldD (n : Nat) (kn : Kn) (f s : Option Own) : D := .tup [.lst ((List.range n).map fun (i : Nat) => optD (lkp kn (i : Int))), .tup [optD f, optD s]]
theorem nl_opt {f : Option Own} : noLst (optD f) = true := by
  cases f with
  | none => rfl
  | some o => simp_arith [optD, oD, vD, iD, nls_map (f := D.int) fun _ _ => rfl]
/-- the loop over the steps at one room -/
structure BI (n : Nat) (st : List Stp) (r hr : Int) (p : Nat) (xs : List (Stp × Nat)) (kn : Kn) : Prop where
  knw : KN n st r kn
  at_ : (kys kn)[p]? = some hr
  old : ∀ j x, j < p → (kys kn)[j]? = some x → ∀ s ∈ st, DoneS kn x s
  now : ∀ q ∈ st.zipIdx, q ∈ xs ∨ DoneS kn hr q.1
  sub : ∀ q ∈ xs, st[q.2]? = some q.1
theorem BI.grow {n : Nat} {st : List Stp} {r hr : Int} {p : Nat} {xs : List (Stp × Nat)} {kn : Kn} (h : BI n st r hr p xs kn) {b : Int} {o : Own} (h2 : KN n st r (kn ++ [(b, o)])) : BI n st r hr p xs (kn ++ [(b, o)]) where
  knw := h2
  at_ := by
    have := (List.getElem?_eq_some_iff.mp h.at_).1
    unfold kys at *
    rw [List.map_append, List.getElem?_append_left this]; exact h.at_
  old := fun j x hj hx => by
    have h3 := (List.getElem?_eq_some_iff.mp h.at_).1
    unfold kys at hx h3
    rw [List.map_append, List.getElem?_append_left (by omega)] at hx
    exact fun s hs => (h.old j x hj hx s hs).mono
  now := fun q hq => (h.now q hq).imp id fun d => d.mono
  sub := h.sub
theorem BI.next {n : Nat} {st : List Stp} {r hr : Int} {p : Nat} {x : Stp × Nat} {xs : List (Stp × Nat)} {kn : Kn} (h : BI n st r hr p (x :: xs) kn) (hd : DoneS kn hr x.1) : BI n st r hr p xs kn where
  knw := h.knw
  at_ := h.at_
  old := h.old
  now := fun q hq => by
    rcases h.now q hq with h1 | h1
    · rcases List.mem_cons.mp h1 with h1 | h1
      · rw [h1]; exact .inr hd
      · exact .inl h1
    · exact .inr h1
  sub := fun q hq => h.sub q (List.mem_cons_of_mem _ hq)
theorem told_ok {n : Nat} {st : List Stp} {r : Int} (H : Ho n st) (hr0 : 0 ≤ r) (hr1 : r < n) : ∃ d, callP 2 (tb C (k + 6) 17) [hoD n st, .int r] S = .some (d, S) ∧ ∃ kn f s, d = toldD n kn f s ∧ Told n st r kn f s := by
  have h6 := H.n6
  have h16 := H.s16
  have hmul : ∀ S0 : Store, gMul S0 (.tup [.int 0]) (.int (st.length : Int)) = some (iD (List.replicate st.length 0)) := fun S0 => by
    rw [mul_tup1 (by omega)]
    simp [iD]
  have hrng : ∀ S0 : Store, rng1 [.int (st.length : Int)] S0 = .some (.fix (rngD 0 st.length), S0) := fun S0 => rng1_nat (by omega)
  have hless : ∀ (x y : Own) (S0 : Store), x.2.length = st.length → bM 20 y → bR 20 y → callP 3 (tb C (k + 5) 12) [oD x, oD y, .int 1] S0 = .some (oD (lessO x y 1), S0) := fun x y S0 hx h1 h2 => less_in_o (a := 1) (b := 20) (by decide) h1 h2 (by decide) (by omega)
  have hturn : ∀ (x : Own) (S0 : Store), x.2.length = st.length → bM 20 x → callP 1 (tb C (k + 5) 13) [oD x] S0 = .some (oD (negO x), S0) := fun x S0 hx h1 => turned_o (h1.mono (by decide)) (by omega)
  have hmv : ∀ (s : Stp) (i : Int), s ∈ st → bM 20 (s.2.1, unitL st.length i) ∧ bR 20 (s.2.1, unitL st.length i) := fun s i hs => by
    refine ⟨fun e he => ?_, fun e he => ?_⟩
    · rcases he with he | he
      · rw [he]; have := (H.mv s hs).1; simp only; omega
      · rw [he]; have := (H.mv s hs).2; simp only; omega
    · have := unit_small (many := st.length) (i := i) he; omega
  refine callP_sat (b := b_told_in C (tb C (k + 5))) rfl rfl (by simp_arith [nr_ho]) ?_
  simp_arith [b_told_in, hoD, hmul]
  refine sat_while (fun m e S0 => ∃ kn p w7 w8 w9 w10, e = [some (hoD n st), some (.int r), some (.int (st.length : Int)), some (iD (List.replicate st.length 0)), some (.ref 0), some (.ref 1), some (.int (p : Nat)), w7, w8, w9, w10, none, none] ∧ S0 = [.dic (kD kn), .lst (oL kn)] ∧
    KN n st r kn ∧ p ≤ kn.length ∧ m = n - p ∧ (∀ j x, j < p → (kys kn)[j]? = some x → ∀ s ∈ st, DoneS kn x s)) ?_ 1000000 n _ _ (by omega) ⟨[(r, zeroO st.length)], 0, none, none, none, none, rfl, rfl, KN.start hr0 hr1, by simp, by simp, fun j x h => absurd h (Nat.not_lt_zero j)⟩
  rintro m e S0 ⟨kn, p, w7, w8, w9, w10, rfl, rfl, hK, hp, rfl, hold⟩
  have hkn := hK.le
  by_cases hlt : p < kn.length
  · right
    have hlt' : (p : Int) < (kn.length : Int) := by omega
    refine ⟨by simp_arith [oL_len, hlt'], ?_⟩
    obtain ⟨q, hq⟩ : ∃ q, kn[p]? = some q := ⟨_, List.getElem?_eq_getElem hlt⟩
    have hat : (kys kn)[p]? = some q.1 := by unfold kys; rw [List.getElem?_map, hq]; rfl
    have hat2 : atI (oL kn) (p : Int) = some (.int q.1) := by rw [MD.atI_nat]; unfold oL; rw [List.getElem?_map, hat]; rfl
    simp_arith [hat2, hoD]
    rw [numD_map, ← seqS_id (r := forL _ _ _ _ _)]
    refine sat_for (enc := fun p : Stp × Nat => .tup [.int (p.2 : Int), stD p.1]) (fun xs e S0 => ∃ kn v8 v9 v10, e = [some (hoD n st), some (.int r), some (.int (st.length : Int)), some (iD (List.replicate st.length 0)), some (.ref 0), some (.ref 1), some (.int ((p + 1 : Nat) : Int)), some (.int q.1), v8, v9, v10, none, none] ∧ S0 = [.dic (kD kn), .lst (oL kn)] ∧ BI n st r q.1 p xs kn) ?_ ?_ st.zipIdx _ _
      ⟨kn, w8, w9, w10, rfl, rfl, ⟨hK, hat, hold, fun q hq => .inl hq, fun q hq => by have := List.mem_zipIdx hq; rw [List.getElem?_eq_getElem (by omega), this.2.2]; simp⟩⟩
    · rintro ⟨s, i⟩ xs e S0 ⟨kn, v8, v9, v10, rfl, rfl, hB⟩
      have hs : st[i]? = some s := hB.sub (s, i) (List.mem_cons_self ..)
      have hst := List.mem_of_getElem? hs
      refine ⟨_, rfl, ?_⟩
      simp_arith [hrng, unit_comp, unit_fits (show st.length ≤ 1000 by omega), stD]
      have hsz : ∀ kn : Kn, KN n st r kn → (kD kn).length < sizeLine := fun kn h => by rw [kD_len]; have := h.le; exact Nat.lt_of_lt_of_le (show kn.length < 7 by omega) (sizeLine_ge (by decide))
      have hsz2 : ∀ kn : Kn, KN n st r kn → (oL kn).length < sizeLine := fun kn h => by rw [oL_len]; have := h.le; exact Nat.lt_of_lt_of_le (show kn.length < 7 by omega) (sizeLine_ge (by decide))
      have hput : ∀ (kn : Kn) (b : Int) (o : Own) (S0 : Store), KN n st r kn → b ∉ kys kn → putR (kD kn) S0 0 (.inl b) (oD o) = some (S0.set 0 (.dic (kD (kn ++ [(b, o)])))) := fun kn b o S0 h hb => by
        rw [putR_of (hsz kn h), put_k hb]
      have happ : ∀ (kn : Kn) (b : Int) (o : Own) (S0 : Store), KN n st r kn → appR (some (.lst (oL kn))) S0 1 (.int b) = .some (.non, S0.set 1 (.lst (oL (kn ++ [(b, o)])))) := fun kn b o S0 h => by
        rw [appR_of (hsz2 kn h), oL_add]
      have hkno : ∀ (kn : Kn), BI n st r q.1 p ((s, i) :: xs) kn → ∃ o, lkp kn q.1 = some o ∧ o.2.length = st.length := fun kn hB => by
        have := lkp_isSome.mpr (List.mem_of_getElem? hB.at_)
        obtain ⟨o, ho⟩ := Option.isSome_iff_exists.mp this
        exact ⟨o, ho, hB.knw.len _ (lkp_some ho)⟩
      refine sat_split (fun e S0 => ∃ kn1, e = [some (hoD n st), some (.int r), some (.int (st.length : Int)), some (iD (List.replicate st.length 0)), some (.ref 0), some (.ref 1), some (.int ((p + 1 : Nat) : Int)), some (.int q.1), some (.int (i : Nat)), some (stD s), some (iD (unitL st.length (i : Nat))), none, none] ∧ S0 = [.dic (kD kn1), .lst (oL kn1)] ∧ BI n st r q.1 p ((s, i) :: xs) kn1 ∧ (s.1 = q.1 → s.2.2 ∈ kys kn1)) ?_ ?_
      · by_cases c1 : s.1 = q.1 ∧ s.2.2 ∉ kys kn
        · obtain ⟨o, ho, hol⟩ := hkno kn hB
          have hb : (decide (s.1 = q.1) && !has (kD kn) (Sum.inl s.2.2)) = true := by rw [has_k]; simp [c1.1, c1.2]
          have hlk : look (kD kn) (.inl q.1) = some (oD o) := by rw [look_k, ho]; rfl
          have ht : ∀ S0 : Store, callP 1 (tb C (k + 5) 13) [.tup [vD s.2.1, .tup ((unitL st.length (i : Nat)).map .int)]] S0 = .some (oD (negO (s.2.1, unitL st.length (i : Nat))), S0) := fun S0 => hturn (s.2.1, unitL st.length (i : Nat)) S0 unitL_len (hmv s _ hst).1
          have hl := fun S0 => hless o (negO (s.2.1, unitL st.length (i : Nat))) S0 hol (neg_bM (hmv s _ hst).1) (neg_bR (hmv s _ hst).2)
          have hK2 := hB.knw.fwd H hs (by rw [c1.1]; exact ho) c1.2
          simp_arith [hb, hlk, ht, hl, hput kn _ _ _ hB.knw c1.2, happ kn _ (lessO o (negO (s.2.1, unitL st.length (i : Nat))) 1) _ hB.knw]
          refine sat_some.mpr ⟨_, _, rfl, _, rfl, rfl, hB.grow hK2, fun _ => ?_⟩
          simp [kys]
        · have hb : (decide (s.1 = q.1) && !has (kD kn) (Sum.inl s.2.2)) = false := by
            rw [has_k]
            by_cases h1 : s.1 = q.1
            · have h2 : s.2.2 ∈ kys kn := Classical.not_not.mp fun h => c1 ⟨h1, h⟩
              simp [h2]
            · simp [h1]
          simp_arith [hb]
          exact sat_some.mpr ⟨_, _, rfl, kn, rfl, rfl, hB, fun h1 => Classical.not_not.mp fun h => c1 ⟨h1, h⟩⟩
      · rintro e S0 ⟨kn1, rfl, rfl, hB1, hd1⟩
        simp_arith [stD, iD]
        by_cases c1 : s.2.2 = q.1 ∧ s.1 ∉ kys kn1
        · obtain ⟨o, ho, hol⟩ := hkno kn1 hB1
          have hb : (decide (s.2.2 = q.1) && !has (kD kn1) (Sum.inl s.1)) = true := by rw [has_k]; simp [c1.1, c1.2]
          have hlk : look (kD kn1) (.inl q.1) = some (oD o) := by rw [look_k, ho]; rfl
          have hl : ∀ S0 : Store, callP 3 (tb C (k + 5) 12) [oD o, .tup [vD s.2.1, .tup ((unitL st.length (i : Nat)).map .int)], .int 1] S0 = _ := fun S0 => hless o (s.2.1, unitL st.length (i : Nat)) S0 hol (hmv s _ hst).1 (hmv s _ hst).2
          have hK2 := hB1.knw.bwd H hs (by rw [c1.1]; exact ho) c1.2
          simp_arith [hb, hlk, hl, hput kn1 _ _ _ hB1.knw c1.2, happ kn1 _ (lessO o (s.2.1, unitL st.length (i : Nat)) 1) _ hB1.knw]
          refine sat_some.mpr ⟨_, _, _, _, rfl, rfl, (hB1.grow hK2).next ⟨fun h => ?_, fun _ => ?_⟩⟩
          · have := hd1 h
            unfold kys at *
            rw [List.map_append]; exact List.mem_append_left _ this
          · simp [kys]
        · have hb : (decide (s.2.2 = q.1) && !has (kD kn1) (Sum.inl s.1)) = false := by
            rw [has_k]
            by_cases h1 : s.2.2 = q.1
            · have h2 : s.1 ∈ kys kn1 := Classical.not_not.mp fun h => c1 ⟨h1, h⟩
              simp [h2]
            · simp [h1]
          simp_arith [hb]
          exact sat_some.mpr ⟨_, _, _, _, rfl, rfl, hB1.next ⟨hd1, fun h1 => Classical.not_not.mp fun h => c1 ⟨h1, h⟩⟩⟩
    · rintro e S0 ⟨kn', v8, v9, v10, rfl, rfl, hB⟩
      refine sat_some.mpr ⟨n - (p + 1), by omega, kn', p + 1, _, _, _, _, rfl, rfl, hB.knw, ?_, rfl, ?_⟩
      · have := (List.getElem?_eq_some_iff.mp hB.at_).1
        unfold kys at this; rw [List.length_map] at this; omega
      · intro j x hj hx s hs
        rcases Nat.lt_or_eq_of_le (Nat.le_of_lt_succ hj) with hj | hj
        · exact hB.old j x hj hx s hs
        · subst hj
          rw [hB.at_] at hx
          have := Option.some.inj hx
          subst this
          obtain ⟨i, hi⟩ := List.mem_iff_getElem?.mp hs
          have hm : (s, i) ∈ st.zipIdx := by
            rw [List.mem_zipIdx_iff_getElem?]; exact hi
          rcases hB.now _ hm with h | h
          · cases h
          · exact h
  · left
    have hlt' : ¬ (p : Int) < (kn.length : Int) := by omega
    refine ⟨by simp_arith [oL_len, hlt'], ?_⟩
    have hG : Gaps st r (gOf kn) := hK.gaps fun x hx s hs => by
      obtain ⟨j, hj⟩ := List.mem_iff_getElem?.mp hx
      have hj2 := (List.getElem?_eq_some_iff.mp hj).1
      unfold kys at hj2; rw [List.length_map] at hj2
      exact hold j x (by omega) hj s hs
    have hbd : ∀ i o, lkp kn i = some o → o.2.length = st.length ∧ bM 20 o ∧ bR 20 o := fun i o ho => by
      have hm := lkp_some ho
      obtain ⟨j, hj⟩ := List.mem_iff_getElem?.mp hm
      have hj2 := (List.getElem?_eq_some_iff.mp hj).1
      have hs := small_mono (hK.bd j _ hj) (show j ≤ 5 by omega)
      exact ⟨hK.len _ hm, fun e he => by have := hs.1 e he; omega, fun e he => by have := hs.2 e he; omega⟩
    simp_arith [hoD]
    rw [numD_map]
    refine sat_for (enc := fun p : Stp × Nat => .tup [.int (p.2 : Int), stD p.1]) (fun xs e S0 => ∃ v8 v9 v10 ls, e = [some (hoD n st), some (.int r), some (.int (st.length : Int)), some (iD (List.replicate st.length 0)), some (.ref 0), some (.ref 1), some (.int (p : Nat)), w7, v8, v9, v10, none, some (.ref 2)] ∧ S0 = [.dic (kD kn), .lst (oL kn), .lst (ls.map oD)] ∧
      ls ++ xs.filterMap (lpF kn st.length) = lpO kn st ∧ (∀ q ∈ xs, st[q.2]? = some q.1) ∧ ls.length + xs.length ≤ st.length) ?_ ?_ st.zipIdx _ _
      ⟨w8, w9, w10, [], rfl, rfl, rfl, fun q hq => by have := List.mem_zipIdx hq; rw [List.getElem?_eq_getElem (by omega), this.2.2]; simp, by simp⟩
    · rintro ⟨s, i⟩ xs e S0 ⟨v8, v9, v10, ls, rfl, rfl, hls, hix, hle⟩
      have hs : st[i]? = some s := hix (s, i) (List.mem_cons_self ..)
      have hst := List.mem_of_getElem? hs
      rw [List.length_cons] at hle
      refine ⟨_, rfl, ?_⟩
      rw [List.filterMap_cons] at hls
      by_cases ha : s.1 ∈ kys kn
      · have hb : has (kD kn) (.inl s.1) = true := by rw [has_k]; simp [ha]
        obtain ⟨x, hx⟩ := Option.isSome_iff_exists.mp (lkp_isSome.mpr ha)
        have h2 : (gOf kn s.2.2).isSome := (hG.shut s.1 s.2.1 s.2.2 hst).mp (by unfold gOf; rw [hx]; rfl)
        unfold gOf at h2
        rw [Option.isSome_map] at h2
        obtain ⟨y, hy⟩ := Option.isSome_iff_exists.mp h2
        have hlx : look (kD kn) (.inl s.1) = some (oD x) := by rw [look_k, hx]; rfl
        have hly : look (kD kn) (.inl s.2.2) = some (oD y) := by rw [look_k, hy]; rfl
        have ht : ∀ S0 : Store, callP 1 (tb C (k + 5) 13) [.tup [vD s.2.1, .tup ((unitL st.length (i : Nat)).map .int)]] S0 = .some (oD (negO (s.2.1, unitL st.length (i : Nat))), S0) := fun S0 => hturn (s.2.1, unitL st.length (i : Nat)) S0 unitL_len (hmv s _ hst).1
        have hl := fun S0 => hless x (negO (s.2.1, unitL st.length (i : Nat))) S0 (hbd _ _ hx).1 (neg_bM (hmv s _ hst).1) (neg_bR (hmv s _ hst).2)
        have hl2 := fun S0 => hless (lessO x (negO (s.2.1, unitL st.length (i : Nat))) 1) y S0 (lessO_len (hbd _ _ hx).1 (negO_len unitL_len)) (hbd _ _ hy).2.1 (hbd _ _ hy).2.2
        have happ : ∀ (o : Own) (S0 : Store), appR (some (.lst (ls.map oD))) S0 2 (oD o) = .some (.non, S0.set 2 (.lst ((ls ++ [o]).map oD))) := fun o S0 => by
          rw [appR_of (Nat.lt_of_lt_of_le (show (ls.map oD).length < 17 by rw [List.length_map]; omega) (sizeLine_ge (by decide)))]
          simp
        simp_arith [hoD, stD, hb, hrng, unit_comp, unit_fits (show st.length ≤ 1000 by omega), hlx, hly, ht, hl, hl2, happ]
        have hF : lpF kn st.length (s, i) = some (lessO (lessO x (negO (s.2.1, unitL st.length (i : Nat))) 1) y 1) := by simp [lpF, hx, hy]
        rw [hF] at hls
        exact sat_some.mpr ⟨_, _, _, _, rfl, rfl, by rw [← hls]; simp, fun q hq => hix q (List.mem_cons_of_mem _ hq), by rw [List.length_append]; simp; omega⟩
      · have hb : has (kD kn) (.inl s.1) = false := by rw [has_k]; simp [ha]
        have hF : lpF kn st.length (s, i) = none := by simp [lpF, lkp_none ha]
        rw [hF] at hls
        simp_arith [hoD, stD, hb]
        exact sat_some.mpr ⟨_, _, _, ls, rfl, rfl, hls, fun q hq => hix q (List.mem_cons_of_mem _ hq), by omega⟩
    · rintro e S0 ⟨v8, v9, v10, ls, rfl, rfl, hls, -, hle⟩
      have hls : ls = lpO kn st := by simpa using hls
      subst hls
      obtain ⟨d, S2, hF, f, s, rfl, hL⟩ := lattice_o (C := C) (k := k + 1) (n := st.length) (ls := lpO kn st) (by omega) (by simp at hle; omega) (fun x hx => hK.loop H hx)
      have hcR : ∀ S0 : Store, S0[2]? = some (.lst ((lpO kn st).map oD)) → callR 1 (tb C (k + 5) 15) [.ref 2] S0 = .some (.tup [optD f, optD s], S0) := fun S0 h0 => callR1 h0 nrs_o hF (by simp_arith [nl_opt])
      have hcomp : compL (tgName 11) mYes (mGet1 (mVar 4) (mVar 11)) [some (hoD n st), some (.int r), some (.int (st.length : Int)), some (iD (List.replicate st.length 0)), some (.ref 0), some (.ref 1), some (.int (p : Nat)), w7, v8, v9, v10, none, some (.ref 2)] (rngD 0 n) [.dic (kD kn), .lst (oL kn), .lst ((lpO kn st).map oD)]
          = .some ((List.range n).map fun (i : Nat) => optD (lkp kn (i : Int)), [.dic (kD kn), .lst (oL kn), .lst ((lpO kn st).map oD)]) := by
        rw [rngD_map, compL_all (f := fun i : Nat => optD (lkp kn (i : Int))) fun i _ => ?_]
        refine ⟨_, rfl, ?_⟩
        simp_arith [look_k]
        cases lkp kn (i : Int) <;> rfl
      have hfit : ∀ S0 : Store, fits ((List.range n).map fun (i : Nat) => optD (lkp kn (i : Int))) S0 = .some ((List.range n).map fun (i : Nat) => optD (lkp kn (i : Int)), S0) := fun S0 => fits_of (sizeLine_ge (by simp; omega))
      have hrn : ∀ S0 : Store, rng1 [.int (n : Int)] S0 = .some (.fix (rngD 0 n), S0) := fun S0 => rng1_nat (by omega)
      simp only [hoD] at hcomp
      simp_arith [hoD, hrn, hcomp, hfit, hcR [.dic (kD kn), .lst (oL kn), .lst ((lpO kn st).map oD)] rfl]
      exact sat_some.mpr ⟨_, _, rfl, by simp_arith [nr_opt, nrs_map fun _ _ => nr_opt], kn, f, s, rfl, ⟨hK, hG, hL⟩⟩
end P54
set_option Elab.async false
set_option linter.all false
set_option maxRecDepth 100000
set_option maxHeartbeats 2000000
set_option exponentiation.threshold 2000
namespace P54
open PySem PySem.Spec PyProof.Rows L2 MD K54 LT
variable {C : Addr} {k : Nat} {S : Store}
theorem tupled_ok : ∀ (j : Nat) (d : D) (k : Nat) (S : Store), okT j d = true → callP 1 (tb C (k + j + 1) 5) [d] S = .some (tupl d, S) := by
  intro j
  induction j with
  | zero =>
    intro d k S h
    have hn := okT_nr h
    cases d with
    | tup l => simp [okT] at h
    | lst l => simp [okT] at h
    | scr l => simp [okT] at h
    | non => exact callP_def (S2 := []) (b := b_tupled C (tb C k)) rfl rfl (by simp_arith) (by simp_arith [b_tupled, tupl]) (by simp_arith [tupl])
    | bl b => exact callP_def (S2 := []) (b := b_tupled C (tb C k)) rfl rfl (by simp_arith) (by simp_arith [b_tupled, tupl]) (by simp_arith [tupl])
    | int b => exact callP_def (S2 := []) (b := b_tupled C (tb C k)) rfl rfl (by simp_arith) (by simp_arith [b_tupled, tupl]) (by simp_arith [tupl])
    | str b => exact callP_def (S2 := []) (b := b_tupled C (tb C k)) rfl rfl (by simp_arith) (by simp_arith [b_tupled, tupl]) (by simp_arith [tupl])
    | ref n => simp [okT] at h
    | ty n => simp [okT] at h
    | adr n => simp [okT] at h
  | succ j ih =>
    intro d k S h
    have hn := okT_nr h
    have key : ∀ (l : List D) (e0 : MD.Env) (x : D), l.length ≤ 1000000 → (∀ y ∈ l, okT j y = true) → e0 = [some x, none] →
        compL (tgName 1) mYes (mCallP 1 (tb C (k + j + 1) 5) (mCons (mVar 1) mNil)) e0 l [] = .some (l.map tupl, []) := by
      rintro l e0 x hl h2 rfl
      have := compL_all (S := []) (tg := tgName 1) (me := mCallP 1 (tb C (k + j + 1) 5) (mCons (mVar 1) mNil)) (e0 := [some x, none]) (enc := id) (f := tupl) (xs := l) fun y hy => ⟨_, rfl, by simp_arith [id, ih y k [] (h2 y hy)]⟩
      rwa [List.map_id] at this
    have hf : ∀ l : List D, l.length ≤ 1000000 → fits (l.map tupl) [] = .some (l.map tupl, []) := fun l hl => fits_of (sizeLine_ge (by simp; omega))
    have nrt : noRef (tupl d) = true := okT_nr (okT_tupl' h)
    cases d with
    | tup l =>
      obtain ⟨hl, h2⟩ := okT_tup.mp h
      exact callP_def (S2 := []) (b := b_tupled C (tb C (k + j + 1))) rfl rfl (by simp_arith [hn]) (by simp_arith [b_tupled, key l _ _ hl h2 rfl, hf l hl, tupl_tup]) nrt
    | lst l =>
      obtain ⟨hl, h2⟩ := okT_lst.mp h
      exact callP_def (S2 := []) (b := b_tupled C (tb C (k + j + 1))) rfl rfl (by simp_arith [hn]) (by simp_arith [b_tupled, key l _ _ hl h2 rfl, hf l hl, tupl_lst]) nrt
    | scr l =>
      obtain ⟨hl, h2⟩ := okT_scr.mp h
      exact callP_def (S2 := []) (b := b_tupled C (tb C (k + j + 1))) rfl rfl (by simp_arith [hn]) (by simp_arith [b_tupled, key l _ _ hl h2 rfl, hf l hl, tupl_scr]) nrt
    | non => exact callP_def (S2 := []) (b := b_tupled C (tb C (k + j + 1))) rfl rfl (by simp_arith) (by simp_arith [b_tupled, tupl]) (by simp_arith [tupl])
    | bl b => exact callP_def (S2 := []) (b := b_tupled C (tb C (k + j + 1))) rfl rfl (by simp_arith) (by simp_arith [b_tupled, tupl]) (by simp_arith [tupl])
    | int b => exact callP_def (S2 := []) (b := b_tupled C (tb C (k + j + 1))) rfl rfl (by simp_arith) (by simp_arith [b_tupled, tupl]) (by simp_arith [tupl])
    | str b => exact callP_def (S2 := []) (b := b_tupled C (tb C (k + j + 1))) rfl rfl (by simp_arith) (by simp_arith [b_tupled, tupl]) (by simp_arith [tupl])
    | ref n => simp [okT] at h
    | ty n => simp [okT] at h
    | adr n => simp [okT] at h
theorem step_of_ok {n : Nat} {s : Stp} (h : 0 ≤ s.1 ∧ s.1 < n ∧ 0 ≤ s.2.2 ∧ s.2.2 < n) : callP 2 (tb C (k + 4) 9) [stD s, .int (n : Int)] S = .some (.bl true, S) := by
  have hl := fun S => long_tup (C := C) (k := k + 2) (S := S) (l := [.int s.1, vD s.2.1, .int s.2.2]) (n := 3) (by simp_arith [nr_v])
  have hm := fun S => is_move_v (C := C) (k := k) (S := S) (v := s.2.1)
  have hw := fun S (i : Int) (h0 : 0 ≤ i) (h1 : i ≤ (n : Int) - 1) => within_int (C := C) (k := k + 1) (S := S) (i := i) (a := 0) (b := (n : Int) - 1)
  have e1 : s.1 ≤ (n : Int) - 1 := by omega
  have e2 : s.2.2 ≤ (n : Int) - 1 := by omega
  refine callP_def (S2 := []) (b := b_is_step_of C (tb C (k + 3))) rfl rfl (by simp_arith [nr_st]) ?_ rfl
  simp_arith [b_is_step_of, stD, hl, hm, within_int, h.1, h.2.2.1, e1, e2]
theorem house_of_ok {n : Nat} {st : List Stp} (H : Ho n st) : callP 1 (tb C (k + 5) 10) [hoD n st] S = .some (.bl true, S) := by
  have h16 := H.s16
  have h1 := H.n1
  have hl := fun S => long_tup (C := C) (k := k + 3) (S := S) (l := [.int (n : Int), .tup (st.map stD)]) (n := 2) (by simp_arith [nrs_map fun _ _ => nr_st])
  have hc : ∀ e0 : MD.Env, e0 = [some (hoD n st), none] → compL (tgName 1) mYes (mCallP 2 (tb C (k + 4) 9) (mCons (mVar 1) (mCons (mOp2 gSub (mVar 0) (mC (.int 0))) mNil))) e0 (st.map stD) [] = .some (st.map fun _ => .bl true, []) := by
    rintro e0 rfl
    exact compL_all fun x hx => ⟨_, rfl, by simp_arith [hoD, step_of_ok (H.rm x hx)]⟩
  have hf : fits (st.map fun _ => D.bl true) [] = .some (st.map fun _ => .bl true, []) := fits_of (sizeLine_ge (by simp; omega))
  have hb : blsOf (st.map fun _ => D.bl true) = some (st.map fun _ => true) := blsOf_map fun _ _ => rfl
  have ht : (st.map fun _ => true).all id = true := by simp
  have hn : ¬ (n : Int) < 1 := by omega
  refine callP_def (S2 := []) (b := b_is_house_of C (tb C (k + 4))) rfl rfl (by simp_arith [nr_ho]) ?_ rfl
  simp only [hoD] at hc
  simp_arith [b_is_house_of, hoD, hl, num_int, hn, hc, hf, hb, ht]
theorem okT_v {v : V2} {j : Nat} : okT (j + 1) (vD v) = true := by simp [vD, okT, okTs]
theorem okT_st {s : Stp} : okT 2 (stD s) = true := okT_tup.mpr ⟨by simp, fun x hx => by
  simp only [List.mem_cons, List.not_mem_nil, or_false] at hx
  rcases hx with rfl | rfl | rfl
  · rfl
  · exact okT_v
  · rfl⟩
theorem okT_ho {n : Nat} {st : List Stp} (h : st.length ≤ 1000) : okT 4 (hoD n st) = true := okT_tup.mpr ⟨by simp, fun x hx => by
  simp only [List.mem_cons, List.not_mem_nil, or_false] at hx
  rcases hx with rfl | rfl
  · rfl
  · exact okT_tup.mpr ⟨by simp; omega, fun x hx => by
      obtain ⟨s, _, rfl⟩ := List.mem_map.mp hx
      exact okT_st⟩⟩
theorem sure_house_ok {n : Nat} {st : List Stp} {d : D} (H : Ho n st) (hd : tupl d = hoD n st) : callP 1 (tb C (k + 6) 11) [d] S = .some (hoD n st, S) := by
  have h16 := H.s16
  have h6 := H.n6
  have hok : okT 4 d = true := okT_tupl (by rw [hd]; exact okT_ho (by omega))
  have ht := fun S => tupled_ok (C := C) 4 d k S hok
  rw [hd] at ht
  have hc : ∀ e0 : MD.Env, e0 = [some d, some (hoD n st), none] → compL (tgName 2) mYes (mOp2 gGt (mOpN gMax2 (mCons (mOpN gAbs (mCons (mOp2 gSub (mOp2 gSub (mVar 2) (mC (.int 1))) (mC (.int 0))) (mNil))) (mCons (mOpN gAbs (mCons (mOp2 gSub (mOp2 gSub (mVar 2) (mC (.int 1))) (mC (.int 1))) (mNil))) (mNil)))) (mC (.int (9)))) e0 (st.map stD) [] = .some (st.map fun _ => .bl false, []) := by
    rintro e0 rfl
    refine compL_all fun x hx => ⟨_, rfl, ?_⟩
    have h1 := (H.mv x hx).1
    have h2 := (H.mv x hx).2
    have : (decide (9 < if (if x.2.1.2 < 0 then -x.2.1.2 else x.2.1.2) > (if x.2.1.1 < 0 then -x.2.1.1 else x.2.1.1) then (if x.2.1.2 < 0 then -x.2.1.2 else x.2.1.2) else (if x.2.1.1 < 0 then -x.2.1.1 else x.2.1.1))) = false := by
      rw [decide_eq_false_iff_not]
      repeat' split
      all_goals omega
    simp_arith [stD, vD, this]
  have hf : fits (st.map fun _ => D.bl false) [] = .some (st.map fun _ => .bl false, []) := fits_of (sizeLine_ge (by simp; omega))
  have hb : blsOf (st.map fun _ => D.bl false) = some (st.map fun _ => false) := blsOf_map fun _ _ => rfl
  have hany : (st.map fun _ => false).any id = false := by simp
  have hn : ¬ (6 : Int) < (n : Int) := by omega
  have hs : ¬ (16 : Int) < (st.length : Int) := by omega
  refine callP_def (S2 := []) (b := b_sure_house C (tb C (k + 5))) rfl rfl (by simp_arith [okT_nr hok]) ?_ nr_ho
  simp only [hoD] at hc ht
  have hh := fun S => house_of_ok (C := C) (k := k) (S := S) H
  simp only [hoD] at hh
  simp_arith [b_sure_house, hoD, ht, hh, hn, hs, hc, hf, hb, hany]
theorem sure_room_ok {n : Nat} {st : List Stp} {r : Int} (h0 : 0 ≤ r) (h1 : r < n) : callP 2 (tb C (k + 4) 18) [hoD n st, .int r] S = .some (.int r, S) := by
  have h := fun S => sure_int (C := C) (k := k) (S := S) (i := r) (a := 0) (b := (n : Int) - 1) h0 (by omega)
  refine callP_def (S2 := []) (b := b_sure_room C (tb C (k + 3))) rfl rfl (by simp_arith [nr_ho]) ?_ rfl
  simp_arith [b_sure_room, hoD, h]
def redOF (f : Option Own) (o : Own) : Own := match f with
  | none => o
  | some a => lessO o a (o.1.1.fdiv a.1.1)
def redOS (s : Option Own) (o : Own) : Own := match s with
  | none => o
  | some a => lessO o a (o.1.2.fdiv a.1.2)
def redO (f s : Option Own) (o : Own) : Own := redOS s (redOF f o)
theorem redO_fst {f s : Option Own} {o : Own} : (redO f s o).1 = red (f.map (·.1)) (s.map (·.1)) o.1 := by
  cases f <;> cases s <;> rfl
theorem redO_len {f s : Option Own} {o : Own} {m : Nat} (ho : o.2.length = m) (hf : ∀ a, f = some a → a.2.length = m) (hs : ∀ a, s = some a → a.2.length = m) : (redO f s o).2.length = m := by
  have h1 : (redOF f o).2.length = m := by
    cases f with
    | none => exact ho
    | some a => exact lessO_len ho (hf a rfl)
  cases s with
  | none => exact h1
  | some a => exact lessO_len h1 (hs a rfl)
theorem brought_ok {n : Nat} {ls : List Own} {f s : Option Own} {o : Own} (L : LF n ls f s) (hn : n ≤ 1000) (ho : o.2.length = n) (h1 : bM 700 o) (h2 : bR 60000 o) :
    callP 2 (tb C (k + 3) 16) [oD o, .tup [optD f, optD s]] S = .some (oD (redO f s o), S) := by
  refine callP_def (S2 := []) (b := b_brought_down C (tb C (k + 2))) rfl rfl (by simp_arith [nr_o, nr_opt]) ?_ nr_o
  have key : ∀ (x : Own) (w : Option D), x.2.length = n → bM 1500 x →
      Sat (msRet (mIte (mTest (mOp2 gIsN (mVar 3) (mC .non))) (mVar 0) (mCallP 3 (tb C (k + 2) 12) (mCons (mVar 0) (mCons (mVar 3) (mCons (mOp2 gDiv (mOp2 gSub (mOp2 gSub (mVar 0) (mC (.int 0))) (mC (.int 1))) (mOp2 gSub (mOp2 gSub (mVar 3) (mC (.int 0))) (mC (.int 1)))) (mNil))))))
        [some (oD x), some (.tup [optD f, optD s]), w, some (optD s)] []) fun r => r = .rt (oD (redOS s x)) [] := by
    intro x w hx hM
    cases s with
    | none =>
      simp_arith [opt0]
      exact sat_some.mpr rfl
    | some d =>
      obtain ⟨d1, d2, d3, d4⟩ := L.sl d rfl
      have dp := (L.down.s0 d.1 rfl).2
      have hd : cDivX x.1.2 d.1.2 = true := divx (by omega) d2 (by decide)
      have hq := fdiv_bound (a := 1500) (x := x.1.2) (y := d.1.2) (by omega) (hM _ (.inr rfl)) (Nat.lt_of_lt_of_le d2 (pow_le (by decide)))
      have hcall := fun S => less_in_o (C := C) (k := k) (S := S) (x := x) (y := d) hq (d3.mono (B := 60000) (by decide)) (d4.mono (by decide)) (by decide) (by omega)
      simp_arith [optS, isNon_o, subO, subV1, ev_div hd, hcall]
      exact sat_some.mpr rfl
  cases f with
  | none =>
    simp_arith [b_brought_down, opt0]
    obtain ⟨r, hr, rfl⟩ := key o (some .non) ho (h1.mono (by decide))
    simp_arith [opt0] at hr
    exact hr
  | some a =>
    obtain ⟨a1, a2, a3, a4⟩ := L.fl a rfl
    have ap := L.down.f0 a.1 rfl
    have hd : cDivX o.1.1 a.1.1 = true := divx (by omega) a2 (by decide)
    have hq := fdiv_bound (a := 700) (x := o.1.1) (y := a.1.1) (by omega) (h1 _ (.inl rfl)) (Nat.lt_of_lt_of_le a2 (pow_le (by decide)))
    have hcall := fun S => less_in_o (C := C) (k := k) (S := S) (x := o) (y := a) hq (a3.mono (B := 60000) (by decide)) (a4.mono (by decide)) (by decide) (by omega)
    simp_arith [b_brought_down, optS, isNon_o, subO, subV0, ev_div hd, hcall]
    obtain ⟨r, hr, rfl⟩ := key (lessO o a (o.1.1.fdiv a.1.1)) (some (oD a)) (lessO_len ho a1) ((less_bM h1 a3 hq).mono (by decide))
    simp_arith [optS] at hr
    exact hr
theorem moves_of_ok {f s : Option Own} : callP 1 (tb C (k + 1) 19) [.tup [optD f, optD s]] S = .some (.tup ((mvs f s).map vD), S) := by
  have hc : compL (tgName 1) (mTest (mOp2 gIsntN (mVar 1) (mC .non))) (mOp2 gSub (mVar 1) (mC (.int 0))) [some (.tup [optD f, optD s]), none] ([f, s].map optD) [] = .some ((([f, s].filter fun x => x.isSome).map fun x => match x with | some o => vD o.1 | none => .non), []) := by
    refine compL_pure fun x _ => ⟨_, rfl, ?_, fun hx => ?_⟩
    · cases x with
      | none => simp_arith [opt0]; rfl
      | some o => simp_arith [optS, isNon_o]; rfl
    · cases x with
      | none => cases hx
      | some o => simp_arith [optS, subO]
  have e : (([f, s].filter fun x => x.isSome).map fun x => match x with | some o => vD o.1 | none => .non) = (mvs f s).map vD := by
    cases f <;> cases s <;> rfl
  rw [e] at hc
  have hf : fits ((mvs f s).map vD) [] = .some ((mvs f s).map vD, []) := fits_of (sizeLine_ge (by cases f <;> cases s <;> simp [mvs]))
  refine callP_def (S2 := []) (b := b_moves_of C (tb C k)) rfl rfl (by simp_arith [nr_opt]) ?_ (by simp_arith [nrs_map fun _ _ => nr_v])
  simp only [List.map_cons, List.map_nil] at hc
  simp_arith [b_moves_of, hc, hf]
/-- what told_in tells of a HOUSE and a room of it -/
theorem loop_moves_ok {n : Nat} {st : List Stp} {d : D} {r : Int} (H : Ho n st) (hd : tupl d = hoD n st) (h0 : 0 ≤ r) (h1 : r < n) :
    ∃ kn f s, callP 2 (tb C (k + 7) 20) [d, .int r] S = .some (.tup ((mvs f s).map vD), S) ∧ Told n st r kn f s := by
  have h16 := H.s16
  have hok : okT 4 d = true := okT_tupl (by rw [hd]; exact okT_ho (by omega))
  obtain ⟨t, ht, kn, f, s, rfl, T⟩ := told_ok (C := C) (k := k) (S := []) H h0 h1
  have hs := fun S => sure_house_ok (C := C) (k := k) (S := S) H hd
  have hr := fun S => sure_room_ok (C := C) (k := k + 2) (S := S) (st := st) h0 h1
  refine ⟨kn, f, s, ?_, T⟩
  refine callP_def (S2 := []) (b := b_loop_moves C (tb C (k + 6))) rfl rfl (by simp_arith [okT_nr hok]) ?_ (by simp_arith [nrs_map fun _ _ => nr_v])
  simp only [toldD] at ht
  simp_arith [b_loop_moves, hs, hr, ht, moves_of_ok]
/-- the gaps that room_gaps tells -/
def gapD (kn : Kn) (f s : Option Own) (i : Int) : D := match lkp kn i with
  | none => .non
  | some o => vD (redO f s o).1
theorem room_gaps_ok {n : Nat} {st : List Stp} {d : D} {r : Int} (H : Ho n st) (hd : tupl d = hoD n st) (h0 : 0 ≤ r) (h1 : r < n) :
    ∃ kn f s, callP 2 (tb C (k + 7) 21) [d, .int r] S = .some (.tup ((List.range n).map fun (i : Nat) => gapD kn f s i), S) ∧ Told n st r kn f s := by
  have h16 := H.s16
  have h6 := H.n6
  have hok : okT 4 d = true := okT_tupl (by rw [hd]; exact okT_ho (by omega))
  obtain ⟨t, ht, kn, f, s, rfl, T⟩ := told_ok (C := C) (k := k) (S := []) H h0 h1
  have hs := fun S => sure_house_ok (C := C) (k := k) (S := S) H hd
  have hr := fun S => sure_room_ok (C := C) (k := k + 2) (S := S) (st := st) h0 h1
  have hle := T.knw.le
  have hbd : ∀ i o, lkp kn i = some o → o.2.length = st.length ∧ bM 700 o ∧ bR 60000 o := fun i o ho => by
    have hm := lkp_some ho
    obtain ⟨j, hj⟩ := List.mem_iff_getElem?.mp hm
    have hj2 := (List.getElem?_eq_some_iff.mp hj).1
    have hs := small_mono (T.knw.bd j _ hj) (show j ≤ 5 by omega)
    have p1 : (2 : Nat) ^ 6 ≤ 2 ^ 700 := pow_le (by decide)
    have p2 : (2 : Nat) ^ 6 ≤ 2 ^ 60000 := pow_le (by decide)
    exact ⟨T.knw.len _ hm, fun e he => by have := hs.1 e he; omega, fun e he => by have := hs.2 e he; omega⟩
  have hc : ∀ e0 : MD.Env, (∃ a b c g, e0 = [a, b, c, g, some (.tup [optD f, optD s]), none]) → compL (tgName 5) mYes (mIte (mTest (mOp2 gIsN (mVar 5) (mC .non))) (mC .non) (mOp2 gSub (mCallP 2 (tb C (k + 6) 16) (mCons (mVar 5) (mCons (mVar 4) (mNil)))) (mC (.int 0)))) e0 ((List.range n).map fun (i : Nat) => optD (lkp kn (i : Int))) []
      = .some ((List.range n).map fun (i : Nat) => gapD kn f s i, []) := by
    rintro e0 ⟨a, b, c, g, rfl⟩
    refine compL_all fun i _ => ⟨_, rfl, ?_⟩
    unfold gapD
    cases hk : lkp kn (i : Int) with
    | none => simp_arith [opt0]
    | some o =>
      obtain ⟨o1, o2, o3⟩ := hbd _ _ hk
      have hb := fun S => brought_ok (C := C) (k := k + 3) (S := S) T.lf (by omega) o1 o2 o3
      simp_arith [optS, isNon_o, hb, subO]
  have hf : fits ((List.range n).map fun (i : Nat) => gapD kn f s i) [] = .some ((List.range n).map fun (i : Nat) => gapD kn f s i, []) := fits_of (sizeLine_ge (by simp; omega))
  refine ⟨kn, f, s, ?_, T⟩
  refine callP_def (S2 := []) (b := b_room_gaps C (tb C (k + 6))) rfl rfl (by simp_arith [okT_nr hok]) ?_ (by
    rw [nr_tup]
    refine nrs_map fun i _ => ?_
    unfold gapD
    split
    · rfl
    · exact nr_v)
  simp only [toldD] at ht
  simp_arith [b_room_gaps, hs, hr, ht, hc _ ⟨_, _, _, _, rfl⟩, hf]
end P54
set_option Elab.async false
set_option linter.all false
set_option maxRecDepth 100000
set_option maxHeartbeats 2000000
set_option exponentiation.threshold 2000
namespace P54
open PySem PySem.Spec PyProof.Rows L2 MD K54 LT
variable {C : Addr} {k n m : Nat} {S S' : Store}
/-! ### draws -/
/-- what stands beside the source of draws stays -/
structure Kp (n : Nat) (S S' : Store) : Prop where
  le : S.length ≤ S'.length
  at_ : ∀ j, j < S.length → j ≠ n → S'[j]? = S[j]?
theorem Kp.refl : Kp n S S := ⟨Nat.le_refl _, fun _ _ _ => rfl⟩
theorem Kp.trans {S'' : Store} (a : Kp n S S') (b : Kp n S' S'') : Kp n S S'' := ⟨Nat.le_trans a.le b.le, fun j h hn => by rw [b.at_ j (Nat.lt_of_lt_of_le h a.le) hn, a.at_ j h hn]⟩
theorem Kp.of (a : Keep n S S') : Kp n S S' := ⟨Nat.le_of_eq a.len.symm, fun j _ hn => a.at_ j hn⟩
theorem Kp.app {o : O} : Kp n S (S ++ [o]) := ⟨by simp, fun j h _ => List.getElem?_append_left h⟩
theorem Bx.lt (h : Bx S n m) : n < S.length := let ⟨_, _, _, a, _⟩ := h; (List.getElem?_eq_some_iff.mp a).1
theorem Bx.mono {m' : Nat} (h : Bx S n m) (k : m ≤ m') : Bx S n m' := let ⟨x, y, z, a, b, c, d, e⟩ := h; ⟨x, y, z, a, b, c, d, by omega⟩
theorem Bx.app {o : O} (h : Bx S n m) : Bx (S ++ [o]) n m := by
  have hl := h.lt
  obtain ⟨x, y, z, a, b⟩ := h
  exact ⟨x, y, z, by rw [List.getElem?_append_left hl]; exact a, b⟩
theorem Bx.set {j : Nat} {o : O} (h : Bx S n m) (hj : j ≠ n) : Bx (S.set j o) n m := by
  obtain ⟨x, y, z, a, b⟩ := h
  exact ⟨x, y, z, by rw [List.getElem?_set_ne hj]; exact a, b⟩
theorem take_kp (C : Addr) (k : Nat) {b : Int} (hb : 0 < b) (hb2 : b < 2 ^ 40) (hm : m < 2 ^ 40) (h : Bx S n m) :
    ∃ d S', 0 ≤ d ∧ d < b ∧ callT 2 (tb C (k + 1) 23) [.ref n, .int b] S = .some (.int d, S') ∧ Bx S' n (m + 1) ∧ Kp n S S' ∧ S'.length = S.length := by
  obtain ⟨d, S', h1, h2, h3, h4, h5⟩ := take_ok C k n m S b hb hb2 hm h
  exact ⟨d, S', h1, h2, h3, h4, .of h5, h5.len⟩
theorem of_ok {l : List D} (hl : l ≠ []) (hl2 : l.length < 1000000) (hm : m < 2 ^ 40) (h : Bx S n m) :
    ∃ d S', d ∈ l ∧ callT 2 (tb C (k + 2) 25) [.ref n, .lst l] S = .some (d, S') ∧ Bx S' n (m + 1) ∧ Kp n S S' := by
  have hp : 0 < l.length := List.length_pos_iff.mpr hl
  obtain ⟨d, S', h1, h2, h3, h4, h5, -⟩ := take_kp C k (b := (l.length : Int)) (by omega) (by omega) hm h
  have hlt : d.toNat < l.length := by omega
  have hat : atI l d = some l[d.toNat] := by
    have := MD.atI_nat (l := l) (i := d.toNat)
    rw [Int.toNat_of_nonneg h1] at this
    rw [this]
    exact List.getElem?_eq_getElem hlt
  refine ⟨l[d.toNat], S', List.getElem_mem _, ?_, h4, h5⟩
  refine callT_def (b := b__law_of C (tb C (k + 1))) rfl rfl ?_
  simp_arith [b__law_of, h3, hat]
theorem move_ok {v : Int} (hv : 0 < v) (hv2 : v < 1000) (hm : m + 3 < 2 ^ 40) (h : Bx S n m) :
    ∃ w S', w.1.natAbs ≤ v ∧ w.2.natAbs ≤ v ∧ callT 2 (tb C (k + 2) 30) [.ref n, .int v] S = .some (vD w, S') ∧ Bx S' n (m + 3) ∧ Kp n S S' ∧ S'.length = S.length := by
  obtain ⟨a, S1, a0, a1, a2, a3, a4, a5⟩ := take_kp C k hv (by omega) (by omega) h
  obtain ⟨b, S2, b0, b1, b2, b3, b4, b5⟩ := take_kp C k (b := 2 * (1 + a) + 1) (by omega) (by omega) (by omega) a3
  obtain ⟨c, S3, c0, c1, c2, c3, c4, c5⟩ := take_kp C k (b := 2 * (1 + a) + 1) (by omega) (by omega) (by omega) b3
  have hmul : cMulX 2 (1 + a) = true := cM (a := 2) (b := 11) (by decide) (by omega) (by decide)
  refine ⟨(b - (1 + a), c - (1 + a)), S3, by simp only; omega, by simp only; omega, ?_, c3, (a4.trans b4).trans c4, by omega⟩
  refine callT_def (b := b__law_move C (tb C (k + 1))) rfl rfl ?_
  simp_arith [b__law_move, a2, ev_mul hmul, b2, c2, vD]
theorem getLast (S : Store) (o : O) : (S ++ [o])[S.length]? = some o := by simp
theorem setLast (S : Store) (o o' : O) : (S ++ [o]).set S.length o' = S ++ [o'] := by simp
/-- a store with one more object at its end, whatever was drawn meanwhile -/
theorem Kp.last {o : O} (h : Kp n (S ++ [o]) S') (hn : n < S.length) : S'[S.length]? = some o := by
  rw [h.at_ S.length (by simp) (by omega)]; exact getLast S o
theorem house_ok {R T V : Int} (hR : 0 < R) (hR2 : R < 1000) (hT : 0 ≤ T) (hT2 : T < 1000) (hV : 0 < V) (hV2 : V < 1000) (hm : m + 2 + 5 * T.toNat < 2 ^ 40) (h : Bx S n m) :
    ∃ (nn : Nat) (st : List Stp) (S' : Store), 1 ≤ nn ∧ nn ≤ R ∧ st.length ≤ T ∧ (∀ s ∈ st, (0 ≤ s.1 ∧ s.1 < nn ∧ 0 ≤ s.2.2 ∧ s.2.2 < nn) ∧ s.2.1.1.natAbs ≤ V ∧ s.2.1.2.natAbs ≤ V) ∧
      callT 4 (tb C (k + 3) 31) [.ref n, .int R, .int T, .int V] S = .some (hoD nn st, S') ∧ Bx S' n (m + 2 + 5 * T.toNat) ∧ Kp n S S' := by
  have hn := h.lt
  obtain ⟨a, S1, a0, a1, a2, a3, a4, a5⟩ := take_kp C (k + 1) hR (by omega) (by omega) h
  obtain ⟨c, S2, c0, c1, c2, c3, c4, c5⟩ := take_kp C (k + 1) (b := T + 1) (S := S1 ++ [.lst []]) (by omega) (by omega) (by omega) a3.app
  have e1 : ∀ S0 : Store, rng1 [.int c] S0 = .some (.fix (rngD 0 c.toNat), S0) := fun S0 => rng1_of (smI_of c0 (by omega))
  obtain ⟨nn, hnn⟩ : ∃ nn : Nat, (nn : Int) = 1 + a := ⟨(1 + a).toNat, by omega⟩
  obtain ⟨d, S', hcall, st, rfl, h1, h2, h3, h4⟩ := callT_sat (S := S) (F := tb C (k + 3) 31) (n := 4) (ds := [.ref n, .int R, .int T, .int V]) (b := b__law_house C (tb C (k + 2))) (N := 7) (Q := fun d S' => ∃ st : List Stp, d = hoD nn st ∧ st.length ≤ T ∧ (∀ s ∈ st, (0 ≤ s.1 ∧ s.1 < (nn : Int) ∧ 0 ≤ s.2.2 ∧ s.2.2 < (nn : Int)) ∧ s.2.1.1.natAbs ≤ V ∧ s.2.1.2.natAbs ≤ V) ∧ Bx S' n (m + 2 + 5 * T.toNat) ∧ Kp n S S') rfl rfl (by
      simp_arith [b__law_house, a2, c2, e1, ← hnn]
      rw [rngD_map]
      refine sat_for (enc := fun i : Nat => .int (i : Int)) (fun xs e S0 => ∃ (st : List Stp) (w : Option D), e = [some (.ref n), some (.int R), some (.int T), some (.int V), some (.int (nn : Int)), some (.ref S1.length), w] ∧ S0[S1.length]? = some (.lst (st.map stD)) ∧ st.length + xs.length ≤ T ∧
        (∀ s ∈ st, (0 ≤ s.1 ∧ s.1 < (nn : Int) ∧ 0 ≤ s.2.2 ∧ s.2.2 < (nn : Int)) ∧ s.2.1.1.natAbs ≤ V ∧ s.2.1.2.natAbs ≤ V) ∧ Bx S0 n (m + 2 + 5 * (T.toNat - xs.length)) ∧ Kp n S S0 ∧ S1.length < S0.length) ?_ ?_ (List.range c.toNat) _ _
        ⟨[], none, rfl, c4.last a3.lt, by simp; omega, (fun s hs => nomatch hs), c3.mono (by simp), (a4.trans .app).trans c4, by rw [c5]; simp⟩
      · rintro x xs e S0 ⟨st, w, rfl, hg, hle, hall, hB, hK, hlen⟩
        rw [List.length_cons] at hle hB
        refine ⟨_, rfl, ?_⟩
        obtain ⟨p, T1, p0, p1, p2, p3, p4, p5⟩ := take_kp C (k + 1) (b := (nn : Int)) (by omega) (by omega) (by omega) hB
        obtain ⟨w, T2, w0, w1, w2, w3, w4, w5⟩ := move_ok (C := C) (k := k) hV hV2 (by omega) p3
        obtain ⟨q, T3, q0, q1, q2, q3, q4, q5⟩ := take_kp C (k + 1) (b := (nn : Int)) (by omega) (by omega) (by omega) w3
        have hK3 : Kp n S0 T3 := (p4.trans w4).trans q4
        have hg3 : T3[S1.length]? = some (.lst (st.map stD)) := by rw [hK3.at_ _ hlen (by omega)]; exact hg
        have hap : appR (some (.lst (st.map stD))) T3 S1.length (stD (p, w, q)) = .some (.non, T3.set S1.length (.lst ((st ++ [(p, w, q)]).map stD))) := by
          rw [appR_of (Nat.lt_of_lt_of_le (show (st.map stD).length < 2000 by rw [List.length_map]; omega) (sizeLine_ge (by decide)))]
          simp
        simp only [stD] at hap
        simp_arith [hg, p2, w2, q2, hg3, hap]
        refine sat_some.mpr ⟨st ++ [(p, w, q)], _, rfl, ?_, by rw [List.length_append]; simp; omega, fun s hs => ?_, (q3.set (by omega)).mono (by omega), ⟨?_, fun j hj hjn => ?_⟩, by rw [List.length_set]; have := hK3.le; omega⟩
        · rw [List.getElem?_set_self (by have := hK3.le; omega)]
        · rcases List.mem_append.mp hs with hs | hs
          · exact hall s hs
          · rw [List.mem_singleton.mp hs]; exact ⟨⟨p0, p1, q0, q1⟩, w0, w1⟩
        · rw [List.length_set]; exact Nat.le_trans hK.le hK3.le
        · have := hK.le
          rw [List.getElem?_set_ne (by omega), hK3.at_ j (by omega) hjn, hK.at_ j hj hjn]
      · rintro e S0 ⟨st, w, rfl, hg, hle, hall, hB, hK, hlen⟩
        simp_arith [hg, hoD]
        exact sat_some.mpr ⟨_, _, rfl, st, rfl, by simpa using hle, hall, hB.mono (by simp), hK⟩)
  exact ⟨nn, st, S', by omega, by omega, h1, h2, hcall, h3, h4⟩
end P54
set_option Elab.async false
set_option linter.all false
set_option maxRecDepth 100000
set_option maxHeartbeats 2000000
set_option exponentiation.threshold 2000
namespace P54
open PySem PySem.Spec PyProof.Rows L2 MD K54 LT
variable {C : Addr} {k n m : Nat} {S S' : Store}
/-- a bound on how many draws a mixing takes -/
def cst : Nat → D → Nat
  | j + 1, .tup l => 1 + (l.map (cst j)).sum
  | j + 1, .lst l => 1 + (l.map (cst j)).sum
  | j + 1, .scr l => 1 + (l.map (cst j)).sum
  | _, _ => 0
theorem list_ext {α : Type} {xs ys : List D} {f : D → α} (hl : ys.length = xs.length) (h : ∀ (i : Nat) x y, xs[i]? = some x → ys[i]? = some y → f y = f x) : ys.map f = xs.map f := by
  apply List.ext_getElem?
  intro i
  rw [List.getElem?_map, List.getElem?_map]
  cases hx : xs[i]? with
  | none =>
    have : ys[i]? = none := by rw [List.getElem?_eq_none_iff] at hx ⊢; omega
    rw [this]
  | some x =>
    have hi := (List.getElem?_eq_some_iff.mp hx).1
    obtain ⟨y, hy⟩ : ∃ y, ys[i]? = some y := ⟨_, List.getElem?_eq_getElem (by omega)⟩
    rw [hy]
    show some _ = some _
    rw [h i x y hx hy]
theorem mixed_ok : ∀ (j : Nat) (d : D) (k m : Nat) (S : Store), okT j d = true → Bx S n m → m + cst j d < 2 ^ 40 →
    ∃ r S', callT 2 (tb C (k + j + 2) 26) [.ref n, d] S = .some (r, S') ∧ tupl r = tupl d ∧ Bx S' n (m + cst j d) ∧ Kp n S S' := by
  intro j
  induction j with
  | zero =>
    intro d k m S h hB hm
    refine ⟨d, S, ?_, rfl, hB.mono (by simp), .refl⟩
    cases d with
    | tup l => simp [okT] at h
    | lst l => simp [okT] at h
    | scr l => simp [okT] at h
    | ref n => simp [okT] at h
    | ty n => simp [okT] at h
    | adr n => simp [okT] at h
    | _ => exact callT_def (b := b__law_mixed C (tb C (k + 1))) rfl rfl (by simp_arith [b__law_mixed])
  | succ j ih =>
    intro d k m S h hB hm
    have key : ∀ (l : List D) (x : D), l.length ≤ 1000000 → (∀ y ∈ l, okT j y = true) → m + (1 + (l.map (cst j)).sum) < 2 ^ 40 →
        ∃ ys S1, compL (tgName 3) mYes (mCall 2 (tb C (k + j + 2) 26) (mCons (mVar 0) (mCons (mVar 3) (mNil)))) [some (.ref n), some x, none, none] l S = .some (ys, S1) ∧ ys.length = l.length ∧ ys.map tupl = l.map tupl ∧ Bx S1 n (m + (l.map (cst j)).sum) ∧ Kp n S S1 := by
      intro l x hl h2 hm
      obtain ⟨ys, S1, h3, h4, h5, h6⟩ := compL_inv (tg := tgName 3) (me := mCall 2 (tb C (k + j + 2) 26) (mCons (mVar 0) (mCons (mVar 3) (mNil)))) (e0 := [some (.ref n), some x, none, none]) (enc := id) (fun xs S0 => (∀ y ∈ xs, okT j y = true) ∧ ∃ m', m' + (xs.map (cst j)).sum ≤ m + (l.map (cst j)).sum ∧ Bx S0 n m' ∧ Kp n S S0) (fun x y => tupl y = tupl x)
        (by
          rintro y xs S0 ⟨ho, m', hm', hB', hK'⟩
          rw [List.map_cons, List.sum_cons] at hm'
          obtain ⟨r, S2, r1, r2, r3, r4⟩ := ih y k m' S0 (ho y (List.mem_cons_self ..)) hB' (by omega)
          exact ⟨_, rfl, r, S2, by simp_arith [id, r1], r2, fun z hz => ho z (List.mem_cons_of_mem _ hz), m' + cst j y, by omega, r3, hK'.trans r4⟩)
        l S ⟨h2, m, by omega, hB, .refl⟩
      rw [List.map_id] at h3
      obtain ⟨-, m', hm', hB', hK'⟩ := h4
      exact ⟨ys, S1, h3, h5, list_ext h5 h6, hB'.mono (by simpa using hm'), hK'⟩
    have fin : ∀ (l : List D) (d : D), d = .tup l ∨ d = .lst l ∨ d = .scr l → l.length ≤ 1000000 → (∀ y ∈ l, okT j y = true) → m + cst (j + 1) d < 2 ^ 40 → ∃ r S', callT 2 (tb C (k + (j + 1) + 2) 26) [.ref n, d] S = .some (r, S') ∧ tupl r = .tup (l.map tupl) ∧ Bx S' n (m + cst (j + 1) d) ∧ Kp n S S' := by
      intro l d hd hl h2 hm
      have ec : cst (j + 1) d = 1 + (l.map (cst j)).sum := by rcases hd with rfl | rfl | rfl <;> rfl
      rw [ec] at hm ⊢
      obtain ⟨ys, S1, h3, h4, h5, h6, h7⟩ := key l d hl h2 hm
      have hf : ∀ S0 : Store, fits ys S0 = .some (ys, S0) := fun S0 => fits_of (sizeLine_ge (by omega))
      obtain ⟨t, S2, t0, t1, t2, t3, t4, -⟩ := take_kp C (k + j + 1) (b := 2) (by decide) (by decide) (by omega) h6
      by_cases ht : t = 0
      · refine ⟨.lst ys, S2, callT_def (b := b__law_mixed C (tb C (k + j + 2))) rfl rfl ?_, by rw [tupl_lst, h5], t3.mono (by omega), h7.trans t4⟩
        rcases hd with rfl | rfl | rfl <;> simp_arith [b__law_mixed, h3, hf, t2, ht]
      · refine ⟨.tup ys, S2, callT_def (b := b__law_mixed C (tb C (k + j + 2))) rfl rfl ?_, by rw [tupl_tup, h5], t3.mono (by omega), h7.trans t4⟩
        rcases hd with rfl | rfl | rfl <;> simp_arith [b__law_mixed, h3, hf, t2, ht]
    cases d with
    | tup l =>
      obtain ⟨hl, h2⟩ := okT_tup.mp h
      rw [tupl_tup]
      exact fin l _ (.inl rfl) hl h2 hm
    | lst l =>
      obtain ⟨hl, h2⟩ := okT_lst.mp h
      rw [tupl_lst]
      exact fin l _ (.inr (.inl rfl)) hl h2 hm
    | scr l =>
      obtain ⟨hl, h2⟩ := okT_scr.mp h
      rw [tupl_scr]
      exact fin l _ (.inr (.inr rfl)) hl h2 hm
    | ref n => simp [okT] at h
    | ty n => simp [okT] at h
    | adr n => simp [okT] at h
    | _ =>
      refine ⟨_, S, callT_def (b := b__law_mixed C (tb C (k + (j + 1) + 1))) rfl rfl (by simp_arith [b__law_mixed]), rfl, hB.mono (by simp), .refl⟩
/-- the source of draws made of a number -/
theorem box_ok {cs : List Int} {i : Nat} (hc : ∀ c ∈ cs, c.natAbs < 2 ^ 2000000) (hi : i < 1000) (hi2 : i < cs.length) :
    ∃ o, callT 2 (tb C (k + 1) 22) [.lst (cs.map .int), .int (i : Int)] S = .some (.ref S.length, S ++ [o]) ∧ Bx (S ++ [o]) S.length 0 := by
  obtain ⟨c, hc1⟩ : ∃ c, cs[i]? = some c := ⟨_, List.getElem?_eq_getElem hi2⟩
  have hcb := hc c (List.mem_of_getElem? hc1)
  have hat : atI (cs.map D.int) (i : Int) = some (.int c) := by rw [MD.atI_nat, List.getElem?_map, hc1]; rfl
  have hlt : (i : Int) < (cs.length : Int) := by omega
  have hpow : cPow 10 18 = true := by decide
  have m1 : cMulX 39373 (i : Int) = true := cM (a := 20) (b := 10) (by decide) (by omega) (by decide)
  have hne : (2305843009213693951 : Int) ≠ 0 := by decide
  have q0 := Int.fmod_nonneg_of_pos c (show (0 : Int) < 2305843009213693951 by decide)
  have q1 := Int.fmod_lt_of_pos c (show (0 : Int) < 2305843009213693951 by decide)
  have habs : (if c < 0 then -c else c).natAbs = c.natAbs := by clear hcb hc; split <;> omega
  have m2 : ∀ b : Bool, cMulX (if c < 0 then -c else c) (if b = true then 1 else 0) = true := fun b => cM (a := 2000000) (b := 1) (by rw [habs]; exact hcb) (by split <;> decide) (by decide)
  clear hcb hc
  refine ⟨.lst [.int ((if c < 0 then -c else c) * (if decide ((10 : Int) ^ (18 : Int).toNat ≤ (if c < 0 then -c else c)) = true then 1 else 0)), .int (c.fmod 2305843009213693951 + 39373 * i + 24820054), .int 0], ?_, _, _, 0, getLast _ _, ?_, ?_, by decide, by simp⟩
  · refine callT_def (b := b__law_box C (tb C k)) rfl rfl ?_
    simp_arith [b__law_box, hlt, hat, ev_pow hpow, ev_mul m1, ev_mod hne, ev_mul (m2 _)]
  · omega
  · omega
theorem seqSetLen {α : Type} {l : List α} {i : Nat} {a : α} : (l.set i a).length = l.length := List.length_set
/-- the first two numbers with the later ones added -/
theorem cells_ok {ns : List Int} (h63 : ns.length ≤ 63) (hb : ∀ z ∈ ns, Builtin.Int.intBits z ≤ 1048576) :
    ∃ cs : List Int, callP 2 (tb C (k + 1) 24) [.scr (ns.map .int), .int 2] S = .some (.lst (cs.map .int), S) ∧ 1 ≤ cs.length ∧ cs.length ≤ 2 ∧ ∀ c ∈ cs, c.natAbs < 2 ^ 1048700 := by
  have hb2 : ∀ z ∈ ns, z.natAbs < 2 ^ 1048576 := fun z hz => by
    have h := hb z hz
    unfold Builtin.Int.intBits at h
    split at h
    · rename_i e
      have e : z = 0 := by simpa using e
      rw [e]; exact Nat.pow_pos (by decide)
    · have := Nat.lt_log2_self (n := z.natAbs)
      exact Nat.lt_of_lt_of_le this (Nat.pow_le_pow_right (by decide) h)
  have p1 : (2 : Nat) ^ 1048582 = 64 * 2 ^ 1048576 := by rw [show (1048582 : Nat) = 6 + 1048576 from rfl, Nat.pow_add]
  have p2 : (2 : Nat) ^ 1048700 = 2 ^ 118 * 2 ^ 1048582 := by rw [show (1048700 : Nat) = 118 + 1048582 from rfl, Nat.pow_add]
  have p3 : 0 < (2 : Nat) ^ 1048576 := Nat.pow_pos (by decide)
  have hmul : ∀ z ∈ ns, ∀ i : Nat, i < 64 → cMulX z ((i : Int) + 2) = true := fun z hz i hi => cM (a := 1048576) (b := 7) (hb2 z hz) (by omega) (by decide)
  have c2 : ∀ l : List D, cutD l none (some 2) = l.take 2 := fun l => cutD_to (k := 2)
  have c3 : ∀ l : List D, cutD l (some 2) (some 63) = (l.take 63).drop 2 := fun l => cutD_mid (k := 2) (j := 63)
  generalize hB : (2 : Nat) ^ 1048582 = B at *
  generalize hA : (2 : Nat) ^ 1048576 = A at *
  clear hA hB hb
  match ns, h63, hb2, hmul with
  | [], _, _, _ =>
    refine ⟨[0], callP_defc (b := b__law_cells C (tb C k)) (S2 := [.lst [], .lst [.int 0]]) (d := .ref 1) rfl rfl (by simp_arith [List.map_nil]) ?_ ?_, by simp, by simp, by simp; rw [p2]; exact Nat.mul_pos (Nat.pow_pos (by decide)) (by omega)⟩
    · simp_arith [b__law_cells, c2, c3, List.map_nil, List.take_nil, List.drop_nil, List.isEmpty_nil, numD]
    · exact conv_ref (m := 39) rfl (by simp_arith)
  | [a], _, hb2, _ =>
    refine ⟨[a], callP_defc (b := b__law_cells C (tb C k)) (S2 := [.lst [.int a]]) (d := .ref 0) rfl rfl (by simp_arith) ?_ ?_, by simp, by simp, by
      intro c hc
      rw [List.mem_singleton.mp hc, p2]
      have := hb2 a (by simp)
      have : B ≤ 2 ^ 118 * B := Nat.le_mul_of_pos_left B (Nat.pow_pos (by decide))
      omega⟩
    · simp_arith [b__law_cells, c2, c3, List.map_nil, List.map_cons, List.take_nil, List.drop_nil, List.isEmpty_cons, numD, List.take_succ_cons, List.drop_succ_cons]
    · exact conv_ref (m := 39) rfl (by simp_arith)
  | a :: b :: rest, h63, hb2, hmul =>
    rw [List.length_cons, List.length_cons] at h63
    have et : ((((a :: b :: rest).map D.int).take 63).drop 2) = rest.map .int := by
      rw [List.take_of_length_le (by simp; omega)]; rfl
    have et2 : (((a :: b :: rest).map D.int).take 2) = [.int a, .int b] := rfl
    have S1 : Sat (b__law_cells C (tb C k) [some (.scr ((a :: b :: rest).map .int)), some (.int 2), none, none, none, none] []) fun r => ∃ x y : Int, r = .rt (.ref 0) [.lst [.int x, .int y]] ∧ x.natAbs ≤ 62 * B ∧ y.natAbs ≤ 62 * B := by
      simp_arith [b__law_cells, c2, c3, et, et2, List.isEmpty_cons]
      rw [numD_map]
      refine sat_for (enc := fun p : Int × Nat => .tup [.int (p.2 : Int), .int p.1]) (fun xs e S0 => ∃ x y : Int, ∃ w3 w4 w5, e = [some (.scr ((a :: b :: rest).map .int)), some (.int 2), some (.ref 0), w3, w4, w5] ∧ S0 = [.lst [.int x, .int y]] ∧ x.natAbs ≤ (62 - xs.length) * B ∧ y.natAbs ≤ (62 - xs.length) * B ∧ xs.length ≤ 61 ∧ ∀ p ∈ xs, p.1 ∈ rest ∧ p.2 < 62) ?_ ?_ rest.zipIdx _ _
        ⟨a, b, none, none, none, rfl, rfl, ?_, ?_, by simp; omega, fun p hp => ?_⟩
      · rintro ⟨z, i⟩ xs e S0 ⟨x, y, w3, w4, w5, rfl, rfl, hx, hy, hle, hall⟩
        rw [List.length_cons] at hx hy hle
        have hz := hall (z, i) (List.mem_cons_self ..)
        have hzm : z ∈ a :: b :: rest := by simp [hz.1]
        have hm := hmul z hzm i (by omega)
        have hzb := hb2 z hzm
        have hadd : (z * ((i : Int) + 2)).natAbs ≤ B := by
          rw [Int.natAbs_mul, p1]
          have e1 : ((i : Int) + 2).natAbs = i + 2 := by omega
          rw [e1]
          have := Nat.mul_le_mul (Nat.le_of_lt hzb) (show i + 2 ≤ 64 by omega)
          omega
        have hcoef : (62 - xs.length) * B = (62 - (xs.length + 1)) * B + B := by
          rw [show 62 - xs.length = (62 - (xs.length + 1)) + 1 by omega, Nat.add_mul]; simp
        have hne : (2 : Int) ≠ 0 := by decide
        have f0 := Int.fmod_nonneg_of_pos (i : Int) (show (0 : Int) < 2 by decide)
        have f1 := Int.fmod_lt_of_pos (i : Int) (show (0 : Int) < 2 by decide)
        refine ⟨_, rfl, ?_⟩
        rcases (show (i : Int).fmod 2 = 0 ∨ (i : Int).fmod 2 = 1 by omega) with hf | hf
        · simp_arith [ev_mod hne, hf, ev_mul hm]
          exact sat_some.mpr ⟨_, _, _, _, _, rfl, rfl, by rw [hcoef]; omega, by rw [hcoef]; omega, by omega, fun p hp => hall p (List.mem_cons_of_mem _ hp)⟩
        · simp_arith [ev_mod hne, hf, ev_mul hm]
          exact sat_some.mpr ⟨_, _, _, _, _, rfl, rfl, by rw [hcoef]; omega, by rw [hcoef]; omega, by omega, fun p hp => hall p (List.mem_cons_of_mem _ hp)⟩
      · rintro e S0 ⟨x, y, w3, w4, w5, rfl, rfl, hx, hy, -, -⟩
        simp_arith []
        exact sat_some.mpr ⟨x, y, rfl, by simpa using hx, by simpa using hy⟩
      · have := hb2 a (by simp)
        have : 1 * B ≤ (62 - rest.zipIdx.length) * B := Nat.mul_le_mul_right B (by simp; omega)
        omega
      · have := hb2 b (by simp)
        have : 1 * B ≤ (62 - rest.zipIdx.length) * B := Nat.mul_le_mul_right B (by simp; omega)
        omega
      · have := List.mem_zipIdx hp
        exact ⟨by rw [this.2.2]; exact List.getElem_mem _, by omega⟩
    obtain ⟨r, hr, x, y, rfl, hx, hy⟩ := S1
    refine ⟨[x, y], callP_defc (b := b__law_cells C (tb C k)) (S2 := [.lst [.int x, .int y]]) (d := .ref 0) rfl rfl (by simp_arith) hr ?_, by simp, by simp, by
      intro c hc
      have h4 : 62 * B < 2 ^ 118 * B := Nat.mul_lt_mul_of_pos_right (by decide) (by omega)
      rw [p2]
      simp only [List.mem_cons, List.not_mem_nil, or_false] at hc
      rcases hc with rfl | rfl <;> omega⟩
    exact conv_ref (m := 39) rfl (by simp_arith)
end P54
set_option Elab.async false
set_option linter.all false
set_option maxRecDepth 100000
set_option maxHeartbeats 2000000
set_option exponentiation.threshold 5000
namespace P54
open PySem PySem.Spec PyProof.Rows L2 MD K54 LT
variable {C : Addr} {k n m : Nat} {S S' : Store}
theorem plus_ok {v w : V2} : callP 2 (tb C (k + 1) 28) [vD v, vD w] S = .some (vD (v.1 + w.1, v.2 + w.2), S) :=
  callP_def (S2 := []) (b := b__law_plus C (tb C k)) rfl rfl (by simp_arith [vD]) (by simp_arith [b__law_plus, vD]) (by simp_arith [vD])
theorem loften_ok {q : Int} {v : V2} (h : cMulX q v.1 = true) (h2 : cMulX q v.2 = true) : callP 2 (tb C (k + 1) 29) [.int q, vD v] S = .some (vD (q * v.1, q * v.2), S) :=
  callP_def (S2 := []) (b := b__law_often C (tb C k)) rfl rfl (by simp_arith [vD]) (by simp_arith [b__law_often, vD, ev_mul h, ev_mul h2]) (by simp_arith [vD])
theorem neg_ok {v : V2} (h : v.1.natAbs < 2 ^ 2000 ∧ v.2.natAbs < 2 ^ 2000) : callP 2 (tb C (k + 1) 29) [.int (-1), vD v] S = .some (vD (-v.1, -v.2), S) := by
  rw [loften_ok (cM (a := 1) (by decide) h.1 (by decide)) (cM (a := 1) (by decide) h.2 (by decide))]
  simp
/-! ### the greatest common divisor -/
theorem gcd_step {x y : Nat} : Nat.gcd x y = Nat.gcd y (x % y) := by
  rw [Nat.gcd_comm x y, Nat.gcd_rec y x, Nat.gcd_comm]
theorem half_step {x y : Nat} (h : y < x) (hy : 0 < y) {m : Nat} (hm : x * y < 2 ^ (m + 1)) : y * (x % y) < 2 ^ m := by
  have h1 := Nat.div_add_mod x y
  have h2 : 1 ≤ x / y := Nat.div_pos (Nat.le_of_lt h) hy
  have h3 : y ≤ y * (x / y) := Nat.le_mul_of_pos_right y h2
  have h4 := Nat.mod_lt x hy
  have h5 : 2 * (x % y) ≤ x := by omega
  have h6 : 2 * (y * (x % y)) ≤ x * y := by
    rw [Nat.mul_comm x y, Nat.mul_left_comm]
    exact Nat.mul_le_mul_left y h5
  rw [Nat.pow_succ] at hm
  omega
theorem divisor_ok {a b : Int} (ha : a.natAbs < 2 ^ 1990) (hb : b.natAbs < 2 ^ 1990) : callP 2 (tb C (k + 1) 32) [.int a, .int b] S = .some (.int (Int.gcd a b), S) := by
  have hS : Sat (b__law_divisor C (tb C k) [some (.int a), some (.int b), none, none, none] []) fun r => r = .rt (.int (Int.gcd a b)) [] := by
    have ea : (if a < 0 then -a else a) = (a.natAbs : Int) := by split <;> omega
    have eb : (if b < 0 then -b else b) = (b.natAbs : Int) := by split <;> omega
    have er : ∀ S0 : Store, rng1 [.int 4000] S0 = .some (.fix (rngD 0 4000), S0) := fun S0 => rng1_nat (j := 4000) (by decide)
    have e4 : (4000 : Nat) = (List.range 4000).length := by simp
    simp_arith [b__law_divisor, ea, eb, er]
    rw [rngD_map]
    refine sat_for (enc := fun i : Nat => .int (i : Int)) (fun xs e S0 => ∃ (x y : Nat) (w : Option D), e = [some (.int a), some (.int b), some (.int (x : Int)), some (.int (y : Int)), w] ∧ S0 = [] ∧ Nat.gcd x y = Int.gcd a b ∧ x < 2 ^ 1990 ∧ y < 2 ^ 1990 ∧
      (y = 0 ∨ (y < x ∧ x * y < 2 ^ xs.length) ∨ xs.length = 4000)) ?_ ?_ (List.range 4000) _ _ ⟨a.natAbs, b.natAbs, none, rfl, rfl, rfl, ha, hb, .inr (.inr e4.symm)⟩
    · rintro i xs e S0 ⟨x, y, w, rfl, rfl, hg, hx, hy, hI⟩
      refine ⟨_, rfl, ?_⟩
      by_cases h0 : y = 0
      · subst h0
        have hz : ((0 : Nat) : Int) = 0 := rfl
        simp_arith [hz]
        refine sat_some.mpr ?_
        show SR.rt _ _ = _
        rw [← hg, Nat.gcd_zero_right]
      · have hz : ¬ ((y : Int) = 0) := by omega
        have hd : cDivX (x : Int) (y : Int) = true := divx (by omega) (a := 1990) (by rw [Int.natAbs_natCast]; exact hy) (by decide)
        have e1 : ((x : Int)).fdiv (y : Int) = ((x / y : Nat) : Int) := by rw [Int.fdiv_eq_ediv_of_nonneg _ (by omega)]; rfl
        have hq : x / y < 2 ^ 1990 := Nat.lt_of_le_of_lt (Nat.div_le_self x y) hx
        have hmul : cMulX ((x / y : Nat) : Int) (y : Int) = true := cM (a := 1990) (b := 1990) (by rw [Int.natAbs_natCast]; exact hq) (by rw [Int.natAbs_natCast]; exact hy) (by decide)
        have e2 : (x : Int) - ((x / y : Nat) : Int) * (y : Int) = ((x % y : Nat) : Int) := by
          have h := Nat.div_add_mod x y
          rw [Nat.mul_comm] at h
          have h2 : ((x / y * y : Nat) : Int) = ((x / y : Nat) : Int) * (y : Int) := Int.natCast_mul _ _
          omega
        simp_arith [hz, ev_div hd, e1, ev_mul hmul, e2]
        refine sat_some.mpr ⟨y, x % y, _, rfl, rfl, by rw [← gcd_step]; exact hg, hy, Nat.lt_trans (Nat.mod_lt x (by omega)) hy, ?_⟩
        right; left
        refine ⟨Nat.mod_lt x (by omega), ?_⟩
        rw [List.length_cons] at hI
        rcases hI with h | ⟨h1, h2⟩ | h
        · exact absurd h h0
        · exact half_step h1 (by omega) h2
        · have h3 : xs.length = 3999 := by omega
          rw [h3]
          have h4 := Nat.mul_le_mul (Nat.le_of_lt hy) (Nat.le_of_lt (Nat.lt_trans (Nat.mod_lt x (show 0 < y by omega)) hy))
          rw [← Nat.pow_add] at h4
          exact Nat.lt_of_le_of_lt h4 (Nat.pow_lt_pow_right (by decide) (by decide))
    · rintro e S0 ⟨x, y, w, rfl, rfl, hg, hx, hy, hI⟩
      have h0 : y = 0 := by
        rcases hI with h | ⟨h1, h2⟩ | h
        · exact h
        · have h2 : x * y < 1 := h2
          rcases Nat.eq_zero_or_pos y with z | z
          · exact z
          · have := Nat.mul_pos (show 0 < x by omega) z
            omega
        · simp at h
      subst h0
      simp_arith []
      refine sat_some.mpr ?_
      rw [← hg, Nat.gcd_zero_right]
  obtain ⟨r, hr, rfl⟩ := hS
  exact callP_def (S2 := []) (b := b__law_divisor C (tb C k)) rfl rfl (by simp_arith) hr rfl
end P54
set_option Elab.async false
set_option linter.all false
set_option maxRecDepth 100000
set_option maxHeartbeats 2000000
set_option exponentiation.threshold 5000
namespace P54
open PySem PySem.Spec PyProof.Rows L2 MD K54 LT
variable {C : Addr} {k n m : Nat} {S S' : Store}
def gLD (gl : Gl) : List (Key × D) := gl.map fun p => (.inl p.1, vD p.2)
theorem look_g {gl : Gl} {i : Int} : look (gLD gl) (.inl i) = (lkv gl i).map vD := by
  unfold look gLD lkv
  rw [List.find?_map]
  simp only [Function.comp_def, inl_inj, Option.map_map]
theorem has_g {gl : Gl} {i : Int} : has (gLD gl) (.inl i) = decide (i ∈ kyv gl) := by
  unfold has gLD kyv
  rw [List.any_map]
  rw [Bool.eq_iff_iff]
  simp [inl_inj, Function.comp_def]
theorem put_g {gl : Gl} {i : Int} {o : V2} (h : i ∉ kyv gl) : putD (gLD gl) (.inl i) (vD o) = gLD (gl ++ [(i, o)]) := by
  rw [putD_new (by rw [has_g]; exact decide_eq_false h)]
  simp [gLD]
theorem gLD_len {gl : Gl} : (gLD gl).length = gl.length := by simp [gLD]
theorem kyv_add {gl : Gl} {i : Int} {o : V2} {x : Int} (h : x ∈ kyv gl) : x ∈ kyv (gl ++ [(i, o)]) := by
  unfold kyv at *; rw [List.map_append]; exact List.mem_append_left _ h
theorem kyv_new {gl : Gl} {i : Int} {o : V2} : i ∈ kyv (gl ++ [(i, o)]) := by simp [kyv]
/-- how it stands within a lap -/
structure GI (n : Nat) (st : List Stp) (r : Int) (gl0 gl : Gl) (xs : List Stp) : Prop where
  gn : GN n st r gl
  st_ : ∀ s ∈ xs, s ∈ st
  one : gl0.length < gl.length ∨ (gl = gl0 ∧ ∀ s ∈ st, s ∈ xs ∨ shutG gl0 s)
  shut : (∀ s ∈ st, shutG gl0 s) → gl = gl0
theorem lgaps_ok {st : List Stp} {r : Int} (H : Ho n st) (h0 : 0 ≤ r) (h1 : r < n) :
    ∃ gl, callT 2 (tb C (k + 2) 33) [hoD n st, .int r] S = .some (.ref S.length, S ++ [.dic (gLD gl)]) ∧ GN n st r gl ∧ (∀ s ∈ st, shutG gl s) := by
  have h6 := H.n6
  obtain ⟨d, S', hc, gl, rfl, rfl, h2, h3⟩ := callT_sat (S := S) (F := tb C (k + 2) 33) (n := 2) (ds := [hoD n st, .int r]) (b := b__law_gaps C (tb C (k + 1))) (N := 7) (Q := fun d S' => ∃ gl, d = .ref S.length ∧ S' = S ++ [.dic (gLD gl)] ∧ GN n st r gl ∧ (∀ s ∈ st, shutG gl s)) rfl rfl (by
    have hrn : ∀ S0 : Store, rng1 [.int (n : Int)] S0 = .some (.fix (rngD 0 n), S0) := fun S0 => rng1_nat (by omega)
    simp_arith [b__law_gaps, hoD, hrn]
    rw [rngD_map]
    refine sat_for (enc := fun i : Nat => .int (i : Int)) (fun xs e S0 => ∃ gl w3 w4 w5 w6, e = [some (hoD n st), some (.int r), some (.ref S.length), w3, w4, w5, w6] ∧ S0 = S ++ [.dic (gLD gl)] ∧ GN n st r gl ∧ xs.length ≤ n ∧ ((∀ s ∈ st, shutG gl s) ∨ n - xs.length + 1 ≤ gl.length)) ?_ ?_ (List.range n) _ _
      ⟨[(r, (0, 0))], none, none, none, none, rfl, rfl, GN.start h0 h1, by simp, .inr (by simp)⟩
    · rintro i xs e S0 ⟨gl0, w3, w4, w5, w6, rfl, rfl, hG0, hle, hor⟩
      rw [List.length_cons] at hle hor
      refine ⟨_, rfl, ?_⟩
      simp_arith [hoD]
      rw [← seqS_id (r := forL _ _ _ _ _)]
      refine sat_for (enc := stD) (fun ys e S0 => ∃ gl w4 w5 w6, e = [some (hoD n st), some (.int r), some (.ref S.length), some (.int (i : Int)), w4, w5, w6] ∧ S0 = S ++ [.dic (gLD gl)] ∧ GI n st r gl0 gl ys) ?_ ?_ st _ _
        ⟨gl0, w4, w5, w6, rfl, rfl, ⟨hG0, fun _ h => h, .inr ⟨rfl, fun s hs => .inl hs⟩, fun _ => rfl⟩⟩
      · rintro s ys e S0 ⟨gl, w4, w5, w6, rfl, rfl, hI⟩
        have hs : s ∈ st := hI.st_ s (List.mem_cons_self ..)
        have hle6 := hI.gn.le
        have hsz : ∀ gl : Gl, gl.length ≤ n → (gLD gl).length < sizeLine := fun gl h => by rw [gLD_len]; exact Nat.lt_of_lt_of_le (show gl.length < 7 by omega) (sizeLine_ge (by decide))
        have hput : ∀ (gl : Gl) (b : Int) (v : V2), gl.length ≤ n → b ∉ kyv gl → putR (gLD gl) (S ++ [.dic (gLD gl)]) S.length (.inl b) (vD v) = some (S ++ [.dic (gLD (gl ++ [(b, v)]))]) := fun gl b v h hb => by
          rw [putR_of (hsz gl h), put_g hb, setLast]
        have hng : ∀ S0 : Store, callP 2 (tb C (k + 1) 29) [.int (-1), vD s.2.1] S0 = .some (vD (-s.2.1.1, -s.2.1.2), S0) := fun S0 => neg_ok (by
          have h9 := H.mv s hs
          have p : (2 : Nat) ^ 4 ≤ 2 ^ 2000 := pow_le (by decide)
          constructor <;> omega)
        refine ⟨[some (hoD n st), some (.int r), some (.ref S.length), some (.int (i : Int)), some (.int s.1), some (vD s.2.1), some (.int s.2.2)], rfl, ?_⟩
        simp_arith [getLast, has_g, look_g]
        refine sat_split (fun e S0 => ∃ gl1, e = [some (hoD n st), some (.int r), some (.ref S.length), some (.int (i : Int)), some (.int s.1), some (vD s.2.1), some (.int s.2.2)] ∧ S0 = S ++ [.dic (gLD gl1)] ∧ GI n st r gl0 gl1 (s :: ys) ∧ (s.1 ∈ kyv gl1 → s.2.2 ∈ kyv gl1)) ?_ ?_
        · by_cases c1 : s.1 ∈ kyv gl ∧ s.2.2 ∉ kyv gl
          · obtain ⟨v, hv⟩ := Option.isSome_iff_exists.mp (lkv_isSome.mpr c1.1)
            have hb : (decide (s.1 ∈ kyv gl) && !decide (s.2.2 ∈ kyv gl)) = true := by simp [c1.1, c1.2]
            have hlk : (lkv gl s.1).map vD = some (vD v) := by rw [hv]; rfl
            simp_arith [hb, hlk, plus_ok, getLast, hput gl _ _ hle6 c1.2]
            refine sat_some.mpr ⟨_, _, rfl, _, rfl, rfl, ⟨hI.gn.fwd H hs hv c1.2, hI.st_, ?_, fun hc => ?_⟩, fun _ => kyv_new⟩
            · left
              rw [List.length_append, List.length_singleton]
              rcases hI.one with h | h
              · omega
              · rw [h.1]; omega
            · have := hI.shut hc
              subst this
              exact absurd ((hc s hs).mp c1.1) c1.2
          · have hb : (decide (s.1 ∈ kyv gl) && !decide (s.2.2 ∈ kyv gl)) = false := by
              by_cases h : s.1 ∈ kyv gl
              · have h2 : s.2.2 ∈ kyv gl := Classical.not_not.mp fun q => c1 ⟨h, q⟩
                simp [h2]
              · simp [h]
            simp_arith [hb]
            exact sat_some.mpr ⟨_, _, rfl, gl, rfl, rfl, hI, fun h => Classical.not_not.mp fun q => c1 ⟨h, q⟩⟩
        · rintro e S0 ⟨gl1, rfl, rfl, hI1, hd⟩
          have hle1 := hI1.gn.le
          simp_arith [getLast, has_g, look_g]
          by_cases c1 : s.2.2 ∈ kyv gl1 ∧ s.1 ∉ kyv gl1
          · obtain ⟨v, hv⟩ := Option.isSome_iff_exists.mp (lkv_isSome.mpr c1.1)
            have hb : (decide (s.2.2 ∈ kyv gl1) && !decide (s.1 ∈ kyv gl1)) = true := by simp [c1.1, c1.2]
            have hlk : (lkv gl1 s.2.2).map vD = some (vD v) := by rw [hv]; rfl
            simp_arith [hb, hlk, hng, plus_ok, getLast, hput gl1 _ _ hle1 c1.2]
            refine sat_some.mpr ⟨_, _, _, _, rfl, rfl, hI1.gn.bwd H hs hv c1.2, fun t ht => hI1.st_ t (List.mem_cons_of_mem _ ht), ?_, fun hc => ?_⟩
            · left
              rw [List.length_append, List.length_singleton]
              rcases hI1.one with h | h
              · omega
              · rw [h.1]; omega
            · have := hI1.shut hc
              subst this
              exact absurd ((hc s hs).mpr c1.1) c1.2
          · have hb : (decide (s.2.2 ∈ kyv gl1) && !decide (s.1 ∈ kyv gl1)) = false := by
              by_cases h : s.2.2 ∈ kyv gl1
              · have h2 : s.1 ∈ kyv gl1 := Classical.not_not.mp fun q => c1 ⟨h, q⟩
                simp [h2]
              · simp [h]
            simp_arith [hb]
            refine sat_some.mpr ⟨_, _, _, _, rfl, rfl, hI1.gn, fun t ht => hI1.st_ t (List.mem_cons_of_mem _ ht), ?_, hI1.shut⟩
            rcases hI1.one with h | ⟨h, h2⟩
            · exact .inl h
            · refine .inr ⟨h, fun t ht => ?_⟩
              rcases h2 t ht with h3 | h3
              · rcases List.mem_cons.mp h3 with h3 | h3
                · right
                  rw [h3, ← h]
                  exact ⟨hd, fun q => Classical.not_not.mp fun q2 => c1 ⟨q, q2⟩⟩
                · exact .inl h3
              · exact .inr h3
      · rintro e S0 ⟨gl, w4, w5, w6, rfl, rfl, hI⟩
        simp_arith []
        refine sat_some.mpr ⟨gl, _, _, _, _, rfl, rfl, hI.gn, by omega, ?_⟩
        rcases hI.one with h | ⟨h, h2⟩
        · rcases hor with ho | ho
          · have := hI.shut ho
            rw [this] at h; omega
          · right; omega
        · left
          intro s hs
          rcases h2 s hs with h3 | h3
          · cases h3
          · rw [h]; exact h3
    · rintro e S0 ⟨gl, w3, w4, w5, w6, rfl, rfl, hG, -, hor⟩
      simp_arith []
      refine sat_some.mpr ⟨_, _, rfl, gl, rfl, rfl, hG, ?_⟩
      rcases hor with h | h
      · exact h
      · have := hG.le
        simp at h; omega)
  exact ⟨gl, hc, h2, h3⟩
theorem nrs_v {l : List V2} : noRefs (l.map vD) = true := nrs_map fun _ _ => nr_v
theorem lloops_ok {st : List Stp} {r : Int} (H : Ho n st) (h0 : 0 ≤ r) (h1 : r < n) :
    ∃ g, callP 2 (tb C (k + 3) 34) [hoD n st, .int r] S = .some (.lst ((loopsOf st g).map vD), S) ∧ Gaps st r g ∧ ∀ v ∈ loopsOf st g, v.1.natAbs ≤ 99 ∧ v.2.natAbs ≤ 99 := by
  have h6 := H.n6
  have h16 := H.s16
  obtain ⟨gl, hc, hG, hs⟩ := lgaps_ok (C := C) (k := k) (S := []) H h0 h1
  have G := hG.gaps hs
  have hsm := fun i v hv => hG.small (i := i) (v := v) h6 hv
  have hcomp : compL (tgTup 3 (tgCons (tgName 3) (tgCons (tgName 4) (tgCons (tgName 5) (tgNil))))) (mTest (mOp2 gIn (mVar 3) (mVar 2))) (mCallP 2 (tb C (k + 2) 28) (mCons (mCallP 2 (tb C (k + 2) 28) (mCons (mOp2 gSub (mVar 2) (mVar 3)) (mCons (mVar 4) (mNil)))) (mCons (mCallP 2 (tb C (k + 2) 29) (mCons (mOp1 gNeg (mC (.int 1))) (mCons (mOp2 gSub (mVar 2) (mVar 5)) (mNil)))) (mNil))))
      [some (hoD n st), some (.int r), some (.ref 0), none, none, none] (st.map stD) [.dic (gLD gl)] = .some ((st.filter fun s => decide (s.1 ∈ kyv gl)).map fun s => match lkv gl s.1, lkv gl s.2.2 with
        | some v, some w => vD (v.1 + s.2.1.1 - w.1, v.2 + s.2.1.2 - w.2)
        | _, _ => .non, [.dic (gLD gl)]) := by
    refine compL_pure fun s hst => ⟨[some (hoD n st), some (.int r), some (.ref 0), some (.int s.1), some (vD s.2.1), some (.int s.2.2)], rfl, by simp_arith [has_g], fun hp => ?_⟩
    have ha : s.1 ∈ kyv gl := of_decide_eq_true hp
    obtain ⟨v, hv⟩ := Option.isSome_iff_exists.mp (lkv_isSome.mpr ha)
    obtain ⟨w, hw⟩ := Option.isSome_iff_exists.mp ((G.shut s.1 s.2.1 s.2.2 hst).mp (by rw [hv]; rfl))
    have hng : ∀ S0 : Store, callP 2 (tb C (k + 2) 29) [.int (-1), vD w] S0 = .some (vD (-w.1, -w.2), S0) := fun S0 => neg_ok (by
      have h9 := hsm _ _ hw
      have p : (2 : Nat) ^ 6 ≤ 2 ^ 2000 := pow_le (by decide)
      constructor <;> omega)
    simp_arith [look_g, hv, hw, hng, plus_ok]
    rfl
  have hmap : ((st.filter fun s => decide (s.1 ∈ kyv gl)).map fun s => match lkv gl s.1, lkv gl s.2.2 with
        | some v, some w => vD (v.1 + s.2.1.1 - w.1, v.2 + s.2.1.2 - w.2)
        | _, _ => .non) = (loopsOf st (lkv gl)).map vD := by
    unfold loopsOf
    rw [List.map_filterMap]
    have key : ∀ l : List Stp, (∀ s ∈ l, s ∈ st) → ((l.filter fun s => decide (s.1 ∈ kyv gl)).map fun s => match lkv gl s.1, lkv gl s.2.2 with
        | some v, some w => vD (v.1 + s.2.1.1 - w.1, v.2 + s.2.1.2 - w.2)
        | _, _ => .non) = l.filterMap fun x => Option.map vD (match lkv gl x.1, lkv gl x.2.2 with
        | some v, some w => some (v.1 + x.2.1.1 - w.1, v.2 + x.2.1.2 - w.2)
        | _, _ => none) := by
      intro l
      induction l with
      | nil => intro _; rfl
      | cons s l ih =>
        intro hl
        have ih := ih fun t ht => hl t (List.mem_cons_of_mem _ ht)
        by_cases ha : s.1 ∈ kyv gl
        · obtain ⟨v, hv⟩ := Option.isSome_iff_exists.mp (lkv_isSome.mpr ha)
          obtain ⟨w, hw⟩ := Option.isSome_iff_exists.mp ((G.shut s.1 s.2.1 s.2.2 (hl s (List.mem_cons_self ..))).mp (by rw [hv]; rfl))
          rw [List.filter_cons, if_pos (by simpa using ha), List.map_cons, List.filterMap_cons, ih]
          simp only [hv, hw, Option.map_some]
        · have hv : lkv gl s.1 = none := by
            cases e : lkv gl s.1 with
            | none => rfl
            | some v => exact absurd (lkv_isSome.mp (by rw [e]; rfl)) ha
          rw [List.filter_cons, if_neg (by simpa using ha), List.filterMap_cons, ih]
          simp only [hv, Option.map_none]
    exact key st fun _ h => h
  rw [hmap] at hcomp
  have hll : (loopsOf st (lkv gl)).length ≤ 16 := Nat.le_trans (List.length_filterMap_le ..) h16
  have hf : ∀ S0 : Store, fits ((loopsOf st (lkv gl)).map vD) S0 = .some ((loopsOf st (lkv gl)).map vD, S0) := fun S0 => fits_of (sizeLine_ge (by simp; omega))
  refine ⟨lkv gl, ?_, G, fun v hv => ?_⟩
  · refine callP_def (S2 := [.dic (gLD gl)]) (b := b__law_loops C (tb C (k + 2))) rfl rfl (by simp_arith [nr_ho]) ?_ (by simp_arith [nrs_v])
    simp only [hoD] at hc hcomp
    simp_arith [b__law_loops, hoD, hc, hcomp, hf]
  · obtain ⟨s, hst, e⟩ := List.mem_filterMap.mp hv
    split at e
    · rename_i x y hx hy
      have e := Option.some.inj e
      have a1 := hsm _ _ hx
      have a2 := hsm _ _ hy
      have a3 := H.mv s hst
      rw [← e]
      simp only
      omega
    · cases e
end P54
set_option Elab.async false
set_option linter.all false
set_option maxRecDepth 100000
set_option maxHeartbeats 2000000
set_option exponentiation.threshold 100
namespace P54
open PySem PySem.Spec PyProof.Rows L2 MD K54 LT
variable {C : Addr} {k n m : Nat} {S S' : Store}
/-- MOVES of which the law's sums can be told -/
def fitV (vs : List V2) : Prop := vs.length ≤ 100 ∧ ∀ v ∈ vs, v.1.natAbs < 2 ^ 900 ∧ v.2.natAbs < 2 ^ 900
theorem minors_ok {vs : List V2} (hv : fitV vs) : ∃ a b, callP 1 (tb C (k + 2) 35) [.lst (vs.map vD)] S = .some (.tup [.int a, .int b], S) ∧ Min vs a b ∧ a.natAbs < 2 ^ 1990 ∧ b.natAbs < 2 ^ 1990 := by
  have hdiv : ∀ (a b : Int) (S0 : Store), a.natAbs < 2 ^ 1990 → b.natAbs < 2 ^ 1990 → callP 2 (tb C (k + 1) 32) [.int a, .int b] S0 = .some (.int (Int.gcd a b), S0) := fun a b S0 ha hb => divisor_ok ha hb
  have p9 : (2 : Nat) ^ 900 ≤ 2 ^ 1990 := pow_le (by decide)
  have p18 : (2 : Nat) ^ (2 * 900 + 2) ≤ 2 ^ 1990 := pow_le (by decide)
  have p0 : 0 < (2 : Nat) ^ 1990 := Nat.pow_pos (by decide)
  have hS : Sat (b__law_minors C (tb C (k + 1)) [some (.lst (vs.map vD)), none, none, none, none, none] []) fun r => ∃ a b, r = .rt (.tup [.int a, .int b]) [] ∧ Min vs a b ∧ a.natAbs < 2 ^ 1990 ∧ b.natAbs < 2 ^ 1990 := by
    simp_arith [b__law_minors]
    rw [numD_map]
    refine sat_for (enc := fun p : V2 × Nat => .tup [.int (p.2 : Int), vD p.1]) (fun xs e S0 => ∃ (a b : Int) (j : Nat) (rest : List V2) (w3 w4 w5 : Option D), e = [some (.lst (vs.map vD)), some (.int a), some (.int b), w3, w4, w5] ∧ S0 = [] ∧ xs = rest.zipIdx j ∧ vs.drop j = rest ∧ 0 ≤ a ∧ 0 ≤ b ∧ a.natAbs < 2 ^ 1990 ∧ b.natAbs < 2 ^ 1990 ∧
      (∀ c : Int, (c ∣ a ∧ ∀ v ∈ rest, c ∣ v.1 ∧ c ∣ v.2) ↔ ∀ v ∈ vs, c ∣ v.1 ∧ c ∣ v.2) ∧ (∀ c : Int, (c ∣ b ∧ ARl c rest) ↔ ARl c vs)) ?_ ?_ vs.zipIdx _ _
      ⟨0, 0, 0, vs, none, none, none, rfl, rfl, rfl, rfl, by decide, by decide, p0, p0, fun c => by simp [Int.dvd_zero], fun c => by simp [Int.dvd_zero]⟩
    · rintro x xs e S0 ⟨a, b, j, rest, w3, w4, w5, rfl, rfl, hxs, hrest, ha0, hb0, ha, hb, hA, hB⟩
      cases rest with
      | nil => simp at hxs
      | cons own rest =>
        rw [List.zipIdx_cons] at hxs
        obtain ⟨rfl, rfl⟩ := List.cons.inj hxs
        have hown : own ∈ vs := List.mem_of_mem_drop (i := j) (by rw [hrest]; exact List.mem_cons_self ..)
        have hrest2 : vs.drop (j + 1) = rest := by
          rw [← List.drop_drop, hrest]; rfl
        have hsub : ∀ w ∈ rest, w ∈ vs := fun w hw => List.mem_of_mem_drop (i := j) (by rw [hrest]; exact List.mem_cons_of_mem _ hw)
        have ho := hv.2 own hown
        have g1 := gcd_lt ha (Nat.lt_of_lt_of_le ho.1 p9)
        have hd1 := fun S0 => hdiv a own.1 S0 ha (Nat.lt_of_lt_of_le ho.1 p9)
        have hd2 := fun S0 => hdiv (Int.gcd a own.1) own.2 S0 (by rw [Int.natAbs_natCast]; exact g1) (Nat.lt_of_lt_of_le ho.2 p9)
        have hcut : ∀ l : List D, cutD l (some ((j : Int) + 1)) none = l.drop (j + 1) := fun l => cutD_from (k := j + 1)
        have hdr : (vs.map vD).drop (j + 1) = rest.map vD := by rw [← List.map_drop, hrest2]
        refine ⟨[some (.lst (vs.map vD)), some (.int a), some (.int b), some (.int (j : Int)), some (vD own), w5], rfl, ?_⟩
        simp_arith [subV0, subV1, hd1, hd2, hcut, hdr]
        rw [← seqS_id (r := forL _ _ _ _ _)]
        refine sat_for (enc := vD) (fun ys e S0 => ∃ (b' : Int) (w5 : Option D), e = [some (.lst (vs.map vD)), some (.int (Int.gcd (Int.gcd a own.1) own.2)), some (.int b'), some (.int (j : Int)), some (vD own), w5] ∧ S0 = [] ∧ 0 ≤ b' ∧ b'.natAbs < 2 ^ 1990 ∧ (∀ w ∈ ys, w ∈ vs) ∧ ∀ c : Int, (c ∣ b' ∧ ∀ w ∈ ys, c ∣ det own w) ↔ (c ∣ b ∧ ∀ w ∈ rest, c ∣ det own w)) ?_ ?_ rest _ _
          ⟨b, w5, rfl, rfl, hb0, hb, hsub, fun c => Iff.rfl⟩
        · rintro its ys e S0 ⟨b', w5, rfl, rfl, hb0', hb', hys, hC⟩
          have hi := hv.2 its (hys its (List.mem_cons_self ..))
          have m1 : cMulX own.1 its.2 = true := cM ho.1 hi.2 (by decide)
          have m2 : cMulX own.2 its.1 = true := cM ho.2 hi.1 (by decide)
          have hdl := Nat.lt_of_lt_of_le (det_lt ho hi) p18
          have hd3 := fun S0 => hdiv b' (own.1 * its.2 - own.2 * its.1) S0 hb' hdl
          refine ⟨_, rfl, ?_⟩
          simp_arith [subV0, subV1, ev_mul m1, ev_mul m2, hd3]
          refine sat_some.mpr ⟨_, _, rfl, rfl, by omega, by rw [Int.natAbs_natCast]; exact gcd_lt hb' hdl, fun w hw => hys w (List.mem_cons_of_mem _ hw), fun c => ?_⟩
          rw [← hC c, dvd_gcd_iff]
          simp only [List.mem_cons, forall_eq_or_imp]
          exact and_assoc
        · rintro e S0 ⟨b', w5, rfl, rfl, hb0', hb', -, hC⟩
          simp_arith []
          refine sat_some.mpr ⟨_, _, j + 1, rest, _, _, _, rfl, rfl, rfl, hrest2, by omega, hb0', by rw [Int.natAbs_natCast]; exact gcd_lt (by rw [Int.natAbs_natCast]; exact g1) (Nat.lt_of_lt_of_le ho.2 p9), hb', fun c => ?_, fun c => ?_⟩
          · rw [← hA c, dvd_gcd_iff, dvd_gcd_iff]
            simp only [List.mem_cons, forall_eq_or_imp]
            constructor
            · rintro ⟨⟨⟨x, y⟩, z⟩, u⟩; exact ⟨x, ⟨y, z⟩, u⟩
            · rintro ⟨x, ⟨y, z⟩, u⟩; exact ⟨⟨⟨x, y⟩, z⟩, u⟩
          · rw [← hB c]
            have := hC c
            simp only [List.not_mem_nil, false_implies, implies_true, and_true] at this
            rw [this]
            exact and_assoc
    · rintro e S0 ⟨a, b, j, rest, w3, w4, w5, rfl, rfl, hxs, hrest, ha0, hb0, ha, hb, hA, hB⟩
      have hr0 : rest = [] := by
        cases rest with
        | nil => rfl
        | cons y l => rw [List.zipIdx_cons] at hxs; cases hxs
      subst hr0
      simp_arith []
      refine sat_some.mpr ⟨a, b, rfl, ⟨ha0, hb0, fun c => ?_, fun c => ?_⟩, ha, hb⟩
      · rw [← hA c]; simp
      · rw [← ARl_iff, ← hB c]; simp [ARl]
  obtain ⟨r, hr, a, b, rfl, h1, h2, h3⟩ := hS
  exact ⟨a, b, callP_def (S2 := []) (b := b__law_minors C (tb C (k + 1))) rfl rfl (by simp_arith [nrs_v]) hr (by simp_arith), h1, h2, h3⟩
theorem eq_t2 {a b c d : Int} {S0 : Store} : MD.gEq S0 (.tup [.int a, .int b]) (.tup [.int c, .int d]) = some (.bl (decide (a = c) && (decide (b = d) && true))) := rfl
/-- a sum of MOVES is known as one -/
theorem is_sum_ok {vs : List V2} {v : V2} (hv : fitV vs) (h1 : v.1.natAbs < 2 ^ 900 ∧ v.2.natAbs < 2 ^ 900) (hl : vs.length < 100) (h : Span vs v) : callP 2 (tb C (k + 3) 36) [.lst (vs.map vD), vD v] S = .some (.bl true, S) := by
  have hv2 : fitV (vs ++ [v]) := ⟨by simp; omega, fun w hw => by
    rcases List.mem_append.mp hw with hw | hw
    · exact hv.2 w hw
    · rw [List.mem_singleton.mp hw]; exact h1⟩
  obtain ⟨a, b, hm, hM, -, -⟩ := minors_ok (C := C) (k := k) (S := []) hv
  obtain ⟨a', b', hm', hM', -, -⟩ := minors_ok (C := C) (k := k) (S := []) hv2
  obtain ⟨rfl, rfl⟩ := hM.same hM' h
  have hadd : ∀ S0 : Store, MD.gAdd S0 (.lst (vs.map vD)) (.lst [vD v]) = some (.lst ((vs ++ [v]).map vD)) := fun S0 => by
    rw [add_lst (sizeLine_ge (by simp; omega))]; simp
  refine callP_def (S2 := []) (b := b__law_is_sum C (tb C (k + 2))) rfl rfl (by simp_arith [nrs_v, nr_v]) ?_ rfl
  by_cases hb : b = 0
  · simp_arith [b__law_is_sum, hadd, hm, hm', hb, eq_t2]
  · simp_arith [b__law_is_sum, hadd, hm, hm', hb, eq_t2]
end P54
set_option Elab.async false
set_option linter.all false
set_option maxRecDepth 100000
set_option maxHeartbeats 2000000
set_option exponentiation.threshold 100
namespace P54
open PySem PySem.Spec PyProof.Rows L2 MD K54 LT
variable {C : Addr} {k n m : Nat} {S S' : Store}
/-- a comprehension that finds nothing -/
theorem comp_none {α : Type} {tg : Tg} {mt : M Bool} {me : M D} {e0 : MD.Env} {enc : α → D} {xs : List α} (h : ∀ x ∈ xs, ∃ e1, tg (enc x) e0 = some e1 ∧ mt e1 S = .some (false, S)) : compL tg mt me e0 (xs.map enc) S = .some ([], S) := by
  have := compL_pure (S := S) (tg := tg) (mt := mt) (me := me) (e0 := e0) (enc := enc) (p := fun _ => false) (f := fun _ => .non) (xs := xs) fun x hx => let ⟨e1, a, b⟩ := h x hx; ⟨e1, a, b, fun q => by cases q⟩
  rw [this]
  simp
theorem fits0 : fits [] S = .some ([], S) := fits_of (sizeLine_ge (by simp))
theorem is_down_ok {f s : Option Own} (h : Down (f.map (·.1)) (s.map (·.1))) : callP 1 (tb C (k + 1) 37) [.tup ((mvs f s).map vD)] S = .some (.bl true, S) := by
  have hc : compL (tgName 1) (mOr (mAnd (mTest (mOp2 MD.gEq (mOp2 MD.gSub (mVar 1) (mC (.int 0))) (mC (.int 0)))) (mTest (mOp2 MD.gLt (mOp2 MD.gSub (mVar 1) (mC (.int 1))) (mC (.int 1))))) (mTest (mOp2 MD.gLt (mOp2 MD.gSub (mVar 1) (mC (.int 0))) (mC (.int 0))))) (mVar 1) [some (.tup ((mvs f s).map vD)), none] ((mvs f s).map vD) [] = .some ([], []) := by
    refine comp_none fun v hv => ⟨_, rfl, ?_⟩
    have hz : (decide (v.1 = 0) && decide (v.2 < 1) || decide (v.1 < 0)) = false := by
      rw [mvs_gens] at hv
      unfold gens at hv
      rcases List.mem_append.mp hv with hv | hv
      · have := h.f0 v (by simpa using hv)
        simp; omega
      · have := h.s0 v (by simpa using hv)
        simp; omega
    simp_arith [subV0, subV1, hz]
  refine callP_def (S2 := []) (b := b__law_is_down C (tb C k)) rfl rfl (by simp_arith [nrs_v]) ?_ rfl
  cases f with
  | none =>
    cases s with
    | none =>
      have e : (mvs none none).map vD = [] := rfl
      rw [e] at hc ⊢
      simp_arith [b__law_is_down, hc, fits0]
    | some d =>
      have e : (mvs none (some d)).map vD = [vD d.1] := rfl
      rw [e] at hc ⊢
      simp_arith [b__law_is_down, hc, fits0]
  | some a =>
    cases s with
    | none =>
      have e : (mvs (some a) none).map vD = [vD a.1] := rfl
      rw [e] at hc ⊢
      simp_arith [b__law_is_down, hc, fits0]
    | some d =>
      have e : (mvs (some a) (some d)).map vD = [vD a.1, vD d.1] := rfl
      rw [e] at hc ⊢
      have h1 := h.f0 a.1 rfl
      have h2 := (h.s0 d.1 rfl).1
      have h3 := h.fs a.1 d.1 rfl rfl
      simp_arith [b__law_is_down, hc, fits0, subV0, subV1, h1, h2, h3.1, h3.2]
/-- data that equal themselves -/
def okS : Nat → D → Bool
  | _, .non => true
  | _, .bl _ => true
  | _, .int _ => true
  | n + 1, .tup l => decide (l.length ≤ 1000000) && l.all (okS n)
  | n + 1, .lst l => decide (l.length ≤ 1000000) && l.all (okS n)
  | _, _ => false
theorem okS_nr : ∀ {j : Nat} {d : D}, okS j d = true → noRef d = true := by
  intro j
  induction j with
  | zero => intro d h; cases d <;> first | rfl | (simp [okS] at h)
  | succ j ih =>
    intro d h
    cases d with
    | tup l =>
      simp only [okS, Bool.and_eq_true, List.all_eq_true] at h
      have := nrs_map (f := id) (l := l) fun x hx => ih (h.2 x hx)
      rw [List.map_id] at this
      rw [nr_tup]; exact this
    | lst l =>
      simp only [okS, Bool.and_eq_true, List.all_eq_true] at h
      have := nrs_map (f := id) (l := l) fun x hx => ih (h.2 x hx)
      rw [List.map_id] at this
      rw [nr_lst]; exact this
    | _ => first | rfl | (simp [okS] at h)
theorem same_ok : ∀ (j : Nat) (d : D) (k : Nat) (S : Store), okS j d = true → callP 2 (tb C (k + j + 1) 27) [d, d] S = .some (.bl true, S) := by
  intro j
  induction j with
  | zero =>
    intro d k S h
    have hn := okS_nr h
    cases d with
    | non => exact callP_def (S2 := []) (b := b__law_same C (tb C k)) rfl rfl (by simp_arith) (by simp_arith [b__law_same]) rfl
    | bl b =>
      have hbb : (b == b) = true := by cases b <;> rfl
      exact callP_def (S2 := []) (b := b__law_same C (tb C k)) rfl rfl (by simp_arith) (by simp_arith [b__law_same, hbb]) rfl
    | int b => exact callP_def (S2 := []) (b := b__law_same C (tb C k)) rfl rfl (by simp_arith) (by simp_arith [b__law_same]) rfl
    | _ => simp [okS] at h
  | succ j ih =>
    intro d k S h
    have hn := okS_nr h
    have key : ∀ (l : List D) (e0 : MD.Env), l.length ≤ 1000000 → (∀ y ∈ l, okS j y = true) → (∃ a b, e0 = [a, b, none, none]) →
        compL (tgTup 2 (tgCons (tgName 2) (tgCons (tgName 3) (tgNil)))) mYes (mCallP 2 (tb C (k + j + 1) 27) (mCons (mVar 2) (mCons (mVar 3) (mNil)))) e0 (zipD l l) [] = .some (l.map fun _ => .bl true, []) := by
      rintro l e0 hl h2 ⟨a, b, rfl⟩
      rw [zipD_self]
      exact compL_all fun y hy => ⟨_, rfl, by simp_arith [ih y k [] (h2 y hy)]⟩
    have hf : ∀ l : List D, l.length ≤ 1000000 → fits (l.map fun _ => D.bl true) [] = .some (l.map fun _ => .bl true, []) := fun l hl => fits_of (sizeLine_ge (by simp; omega))
    have hb : ∀ l : List D, blsOf (l.map fun _ => D.bl true) = some (l.map fun _ => true) := fun l => blsOf_map fun _ _ => rfl
    have ht : ∀ l : List D, (l.map fun _ => true).all id = true := fun l => by simp
    cases d with
    | tup l =>
      simp only [okS, Bool.and_eq_true, List.all_eq_true, decide_eq_true_eq] at h
      exact callP_def (S2 := []) (b := b__law_same C (tb C (k + j + 1))) rfl rfl (by simp_arith [hn]) (by simp_arith [b__law_same, key l _ h.1 h.2 ⟨_, _, rfl⟩, hf l h.1, hb, ht]) rfl
    | lst l =>
      simp only [okS, Bool.and_eq_true, List.all_eq_true, decide_eq_true_eq] at h
      exact callP_def (S2 := []) (b := b__law_same C (tb C (k + j + 1))) rfl rfl (by simp_arith [hn]) (by simp_arith [b__law_same, key l _ h.1 h.2 ⟨_, _, rfl⟩, hf l h.1, hb, ht]) rfl
    | non => exact callP_def (S2 := []) (b := b__law_same C (tb C (k + j + 1))) rfl rfl (by simp_arith) (by simp_arith [b__law_same]) rfl
    | bl b =>
      have hbb : (b == b) = true := by cases b <;> rfl
      exact callP_def (S2 := []) (b := b__law_same C (tb C (k + j + 1))) rfl rfl (by simp_arith) (by simp_arith [b__law_same, hbb]) rfl
    | int b => exact callP_def (S2 := []) (b := b__law_same C (tb C (k + j + 1))) rfl rfl (by simp_arith) (by simp_arith [b__law_same]) rfl
    | _ => simp [okS] at h
theorem same_moves {vs : List V2} (h : vs.length ≤ 1000) : callP 2 (tb C (k + 3) 27) [.tup (vs.map vD), .tup (vs.map vD)] S = .some (.bl true, S) := by
  refine same_ok 2 _ k S ?_
  simp only [okS, Bool.and_eq_true, List.all_eq_true, decide_eq_true_eq, List.length_map]
  refine ⟨by omega, fun x hx => ?_⟩
  obtain ⟨v, _, rfl⟩ := List.mem_map.mp hx
  rfl
/-- sorted keys -/
theorem keyI_g : ∀ gl : Gl, keyI (gLD gl) = some (kyv gl)
  | [] => rfl
  | p :: gl => by
    show (keyI (gLD gl)).map _ = _
    rw [keyI_g gl]; rfl
theorem zipIdx_range : (List.range n).zipIdx = (List.range n).map fun i => (i, i) := by
  apply List.ext_getElem?
  intro i
  simp only [List.getElem?_zipIdx, List.getElem?_map, Nat.zero_add]
  by_cases h : i < n
  · simp [List.getElem?_range h]
  · simp [List.getElem?_eq_none (show (List.range n).length ≤ i by simp; omega)]
theorem sort_same {st : List Stp} {r : Int} {kn : Kn} {gl : Gl} (hk : Gaps st r (gOf kn)) (hn : (kyv gl).Nodup) (hr : ∀ x ∈ kyv gl, 0 ≤ x ∧ x < n) (hg : Gaps st r (lkv gl)) :
    ((List.range n).filter fun (i : Nat) => (lkp kn (i : Int)).isSome).map (fun (i : Nat) => (i : Int)) = sortI (kyv gl) := by
  have hinj : ∀ l : List Nat, l.Nodup → (l.map fun (i : Nat) => (i : Int)).Nodup := fun l h => by
    unfold List.Nodup at h ⊢
    rw [List.pairwise_map]
    exact h.imp fun {a b} q => by omega
  refine sorted_eq (((List.perm_ext_iff_of_nodup (hinj _ (List.nodup_range.filter _)) hn).mpr fun x => ?_).trans (sortI_perm _).symm) ?_ (sortI_sorted _)
  · have e1 : x ∈ kyv gl ↔ ∃ v, Path st r x v := by rw [← lkv_isSome, hg.iff]
    have e2 : (lkp kn x).isSome ↔ ∃ v, Path st r x v := by
      have := hk.iff (b := x)
      unfold gOf at this
      rwa [Option.isSome_map] at this
    rw [e1, List.mem_map]
    constructor
    · rintro ⟨i, hi, rfl⟩
      rw [List.mem_filter] at hi
      exact e2.mp (by simpa using hi.2)
    · intro h
      have hx := hr x (e1.mpr h)
      refine ⟨x.toNat, ?_, by omega⟩
      rw [List.mem_filter, List.mem_range]
      have : ((x.toNat : Nat) : Int) = x := by omega
      exact ⟨by omega, by rw [this]; simpa using e2.mpr h⟩
  · rw [List.pairwise_map]
    exact (List.pairwise_lt_range.filter _).imp fun {a b} q => by omega
end P54
set_option Elab.async false
set_option linter.all false
set_option maxRecDepth 100000
set_option maxHeartbeats 4000000
set_option exponentiation.threshold 100
namespace P54
open PySem PySem.Spec PyProof.Rows L2 MD K54 LT
variable {C : Addr} {k n m : Nat} {S S' : Store}
/-! ### what is told of two rooms of one part -/
section
variable {st : List Stp} {r r' : Int} {kn kn' : Kn} {f s f' s' : Option Own} {v : V2}
theorem told_same (T : Told n st r kn f s) (T' : Told n st r' kn' f' s') (h : Path st r r' v) : f.map (·.1) = f'.map (·.1) ∧ s.map (·.1) = s'.map (·.1) :=
  down_unique T.lf.down T'.lf.down fun w => by rw [T.span, T'.span]; exact h.loops
theorem gap_path (T : Told n st r kn f s) {k : Int} {o : Own} (h : lkp kn k = some o) : Path st r k (redO f s o).1 := by
  have h1 : Path st r k o.1 := T.gaps.sound k o.1 (by unfold gOf; rw [h]; rfl)
  have h2 := T.span.mp (red_diff (f := f.map (·.1)) (s := s.map (·.1)) o.1)
  rw [redO_fst]
  exact (h2.symm.trans h1).cast (by apply Prod.ext <;> simp <;> omega)
theorem told_some (T : Told n st r kn f s) {k : Int} (h : Path st r k v) : ∃ o, lkp kn k = some o := by
  have := T.gaps.iff.mpr ⟨v, h⟩
  unfold gOf at this
  rw [Option.isSome_map] at this
  exact Option.isSome_iff_exists.mp this
theorem told_self (T : Told n st r kn f s) : ∃ o, lkp kn r = some o ∧ (redO f s o).1 = (0, 0) :=
  ⟨zeroO st.length, lkp_mem T.knw.nodup (List.mem_of_getElem? T.knw.zero), by rw [redO_fst]; exact red_zero⟩
theorem gap_bound (T : Told n st r kn f s) (h6 : n ≤ 6) {k : Int} {o : Own} (h : lkp kn k = some o) : (redO f s o).1.1.natAbs < 2 ^ 800 ∧ (redO f s o).1.2.natAbs < 2 ^ 800 := by
  obtain ⟨j, hj⟩ := List.mem_iff_getElem?.mp (lkp_some h)
  have hj2 := (List.getElem?_eq_some_iff.mp hj).1
  have hle := T.knw.le
  have hs := small_mono (T.knw.bd j _ hj) (show j ≤ 5 by omega)
  have ho : bM 7 o := fun e he => by have := hs.1 e he; omega
  have h1 : bM 709 (redOF f o) := by
    cases hf : f with
    | none => exact ho.mono (by decide)
    | some a =>
      obtain ⟨a1, a2, a3, a4⟩ := T.lf.fl a hf
      have ap := T.lf.down.f0 a.1 (by rw [hf]; rfl)
      exact (less_bM ho a3 (fdiv_bound (a := 7) (by omega) (ho _ (.inl rfl)) a2)).mono (by decide)
  have p1 : (2 : Nat) ^ 709 ≤ 2 ^ 800 := pow_le (by decide)
  have p2 : (2 : Nat) ^ 600 ≤ 2 ^ 800 := pow_le (by decide)
  cases hs2 : s with
  | none =>
    subst hs2
    exact ⟨Nat.lt_of_lt_of_le (h1 _ (.inl rfl)) p1, Nat.lt_of_lt_of_le (h1 _ (.inr rfl)) p1⟩
  | some d =>
    subst hs2
    obtain ⟨d1, d2, d3, d4⟩ := T.lf.sl d rfl
    have dp := T.lf.down.s0 d.1 rfl
    have hr := red_snd T.lf.down (v := o.1) (a := d.1) rfl
    rw [← redO_fst] at hr
    have e1 : (redO f (some d) o).1.1 = (redOF f o).1.1 := by
      show (redOF f o).1.1 - _ * d.1.1 = _
      rw [dp.1]; simp
    refine ⟨by rw [e1]; exact Nat.lt_of_lt_of_le (h1 _ (.inl rfl)) p1, ?_⟩
    have : (redO f (some d) o).1.2.natAbs < d.1.2.natAbs := by omega
    omega
theorem mvs_span (T : Told n st r kn f s) : Span (mvs f s) v ↔ Path st r r v := by
  rw [mvs_gens, span_mem2]; exact T.span
theorem mvs_fit (T : Told n st r kn f s) : (mvs f s).length ≤ 2 ∧ ∀ w ∈ mvs f s, w.1.natAbs < 2 ^ 900 ∧ w.2.natAbs < 2 ^ 900 := by
  have p : (2 : Nat) ^ 700 ≤ 2 ^ 900 := pow_le (by decide)
  refine ⟨by cases f <;> cases s <;> simp [mvs], fun w hw => ?_⟩
  obtain ⟨o, ho, rfl⟩ := List.mem_map.mp hw
  have hb : bM 700 o := by
    rcases List.mem_append.mp ho with ho | ho
    · exact (T.lf.fl o (by cases f <;> simp_all)).2.2.1
    · exact (T.lf.sl o (by cases s <;> simp_all)).2.2.1
  exact ⟨Nat.lt_of_lt_of_le (hb _ (.inl rfl)) p, Nat.lt_of_lt_of_le (hb _ (.inr rfl)) p⟩
theorem mvs_rng (T : Told n st r kn f s) {o : V2} : ∀ w ∈ mvs f s, (0 < w.1 → 0 ≤ (red (f.map (·.1)) (s.map (·.1)) o).1 ∧ (red (f.map (·.1)) (s.map (·.1)) o).1 < w.1) ∧ (w.1 = 0 → 0 ≤ (red (f.map (·.1)) (s.map (·.1)) o).2 ∧ (red (f.map (·.1)) (s.map (·.1)) o).2 < w.2) := by
  intro w hw
  rw [mvs_gens] at hw
  unfold gens at hw
  rcases List.mem_append.mp hw with hw | hw
  · have hf : f.map (·.1) = some w := by simpa using hw
    have h0 := T.lf.down.f0 w hf
    exact ⟨fun _ => red_fst T.lf.down hf, fun h => by omega⟩
  · have hs : s.map (·.1) = some w := by simpa using hw
    have h0 := T.lf.down.s0 w hs
    exact ⟨fun h => by omega, fun _ => red_snd T.lf.down hs⟩
end
theorem cst_ho {st : List Stp} : cst 4 (hoD n st) = 2 + 2 * st.length := by
  have h : ∀ l : List Stp, ((l.map stD).map (cst 2)).sum = 2 * l.length := fun l => by
    induction l with
    | nil => rfl
    | cons s l ih =>
      rw [List.map_cons, List.map_cons, List.sum_cons, ih, List.length_cons]
      have : cst 2 (stD s) = 2 := rfl
      omega
  show 1 + (0 + ((1 + ((st.map stD).map (cst 2)).sum) + 0)) = _
  rw [h]; omega
theorem subH0 {st : List Stp} {S0 : Store} : MD.gSub S0 (hoD n st) (.int 0) = some (.int (n : Int)) := rfl
theorem gap_at {kn : Kn} {f s : Option Own} {i : Int} {o : Own} (h0 : 0 ≤ i) (h1 : i < n) (h : lkp kn i = some o) : atI ((List.range n).map fun (i : Nat) => gapD kn f s i) i = some (vD (redO f s o).1) := by
  have e := MD.atI_nat (l := (List.range n).map fun (i : Nat) => gapD kn f s i) (i := i.toNat)
  have e0 : ((i.toNat : Nat) : Int) = i := Int.toNat_of_nonneg h0
  rw [e0] at e
  rw [e, List.getElem?_map, List.getElem?_range (by omega)]
  show some (gapD kn f s ((i.toNat : Nat) : Int)) = _
  rw [e0]
  unfold gapD
  rw [h]
theorem isNon_v {v : V2} : isNon (vD v) = false := rfl
theorem tup2_v {r : Tgs} {v : V2} {e : MD.Env} : tgTup 2 r (vD v) e = r [.int v.1, .int v.2] e := rfl
end P54
set_option Elab.async false
set_option linter.all false
set_option maxRecDepth 100000
set_option maxHeartbeats 4000000
set_option exponentiation.threshold 100
namespace P54
open PySem PySem.Spec PyProof.Rows L2 MD K54 LT
variable {C : Addr} {k n m : Nat} {S S' : Store}
theorem okT_tupl_ho {st : List Stp} : tupl (hoD n st) = hoD n st := by
  have h2 : ∀ s : Stp, tupl (stD s) = stD s := fun s => by simp [stD, vD, tupl, tupls]
  have h1 : (st.map stD).map tupl = st.map stD := by
    rw [List.map_map]
    exact List.map_congr_left fun s _ => h2 s
  unfold hoD
  rw [tupl_tup]
  simp only [List.map_cons, List.map_nil]
  rw [tupl_tup, h1]
  rfl
theorem right_ok {N : Nat} (hB : Bx S N 0) : ∃ d S', callT 1 (tb C (k + 12) 39) [.ref N] S = .some (d, S') ∧ d = .bl true := by
  obtain ⟨v, S1, hv, hof, hB1, -⟩ := of_ok (C := C) (k := k + 9) (l := [.int 2, .int 4, .int 9]) (by simp) (by simp) (by decide) hB
  obtain ⟨V, rfl, hV0, hV9⟩ : ∃ V : Int, v = .int V ∧ 0 < V ∧ V ≤ 9 := by
    simp only [List.mem_cons, List.not_mem_nil, or_false] at hv
    rcases hv with rfl | rfl | rfl
    · exact ⟨2, rfl, by decide, by decide⟩
    · exact ⟨4, rfl, by decide, by decide⟩
    · exact ⟨9, rfl, by decide, by decide⟩
  obtain ⟨nn, st, S2, hn1, hn6, hl8, hall, hho, hB2, -⟩ := house_ok (C := C) (k := k + 8) (R := 6) (T := 8) (V := V) (by decide) (by decide) (by decide) (by decide) hV0 (by omega) (by decide) hB1
  have H : Ho nn st := ⟨hn1, by omega, by omega, fun s hs => (hall s hs).1, fun s hs => by have := (hall s hs).2; omega⟩
  have h6 := H.n6
  have h16 := H.s16
  refine callT_sat (Q := fun d _ => d = .bl true) (b := b__law_right C (tb C (k + 11))) rfl rfl ?_
  have hrn : ∀ S0 : Store, rng1 [.int (nn : Int)] S0 = .some (.fix (rngD 0 nn), S0) := fun S0 => rng1_nat (by omega)
  simp_arith [b__law_right, hof, hho, subH0, hrn]
  rw [rngD_map]
  refine sat_for (enc := fun i : Nat => .int (i : Int)) (fun xs e S0 => ∃ w2 w3 w4 w5 w6 w7 w8 w9, e = [some (.ref N), some (hoD nn st), w2, w3, w4, w5, w6, w7, w8, w9, none] ∧ Bx S0 N (100 + 100 * (nn - xs.length)) ∧ xs.length ≤ nn ∧ ∀ i ∈ xs, i < nn) ?_ ?_ (List.range nn) _ _
    ⟨none, none, none, none, none, none, none, none, rfl, hB2.mono (by simp), by simp, fun i hi => List.mem_range.mp hi⟩
  · rintro i xs e S0 ⟨w2, w3, w4, w5, w6, w7, w8, w9, rfl, hB, hle, hlt⟩
    rw [List.length_cons] at hB hle
    have hr1 : (i : Int) < nn := by have := hlt i (List.mem_cons_self ..); omega
    have hr0 : (0 : Int) ≤ (i : Int) := by omega
    generalize hr : (i : Int) = r at hr0 hr1
    obtain ⟨mh, S1, hmix, htu, hB1, -⟩ := mixed_ok (C := C) 4 (hoD nn st) (k + 5) _ S0 (okT_ho (by omega)) hB (by rw [cst_ho]; omega)
    rw [okT_tupl_ho] at htu
    have hB1 : Bx S1 N (100 + 100 * (nn - xs.length)) := hB1.mono (by rw [cst_ho]; omega)
    obtain ⟨kn, f, s, hlm, T⟩ := loop_moves_ok (C := C) (k := k + 4) (S := S1) H htu hr0 hr1
    obtain ⟨g, hlo, G, hsm⟩ := lloops_ok (C := C) (k := k + 8) (S := S1) H hr0 hr1
    have hLlen : (loopsOf st g).length ≤ 16 := Nat.le_trans (List.length_filterMap_le ..) h16
    have p9 : (2 : Nat) ^ 10 ≤ 2 ^ 900 := pow_le (by decide)
    have p8 : (2 : Nat) ^ 800 + 2 ^ 800 ≤ 2 ^ 900 := by
      have : (2 : Nat) ^ 801 ≤ 2 ^ 900 := pow_le (by decide)
      rw [Nat.pow_succ] at this
      omega
    have p800 : (2 : Nat) ^ 7 ≤ 2 ^ 800 := pow_le (by decide)
    have hLfit : fitV (loopsOf st g) := ⟨by omega, fun v hv => by have := hsm v hv; omega⟩
    have hMfit : fitV (mvs f s) := ⟨by have := (mvs_fit T).1; omega, (mvs_fit T).2⟩
    have hdown := fun S0 => is_down_ok (C := C) (k := k + 10) (S := S0) T.lf.down
    -- each loop's MOVE is a sum of the told ones, each of them one of loops
    have hs1 : ∀ v ∈ loopsOf st g, ∀ S0, callP 2 (tb C (k + 11) 36) [.lst ((mvs f s).map vD), vD v] S0 = .some (.bl true, S0) := fun v hv S0 =>
      is_sum_ok (C := C) (k := k + 8) hMfit (hLfit.2 v hv) (by have := (mvs_fit T).1; omega) ((mvs_span T).mpr (G.span.mp (span_mem hv)))
    have hs2 : ∀ v ∈ mvs f s, ∀ S0, callP 2 (tb C (k + 11) 36) [.lst ((loopsOf st g).map vD), vD v] S0 = .some (.bl true, S0) := fun v hv S0 =>
      is_sum_ok (C := C) (k := k + 8) hLfit (hMfit.2 v hv) (by omega) (G.span.mpr ((mvs_span T).mp (span_mem hv)))
    have hs3 : ∀ v : V2, Path st r r v → (v.1.natAbs < 2 ^ 900 ∧ v.2.natAbs < 2 ^ 900) → ∀ S0, callP 2 (tb C (k + 11) 36) [.lst ((loopsOf st g).map vD), vD v] S0 = .some (.bl true, S0) := fun v hp hb S0 =>
      is_sum_ok (C := C) (k := k + 8) hLfit hb (by omega) (G.span.mpr hp)
    have hc1 : ∀ w5 w6 w7 w8 w9, compL (tgName 10) (mNot (mTru (mCallP 2 (tb C (k + 11) 36) (mCons (mFrz (mCaL MD.gList (mCons (mVar 3) (mNil)))) (mCons (mVar 10) (mNil)))))) (mVar 10) [some (.ref N), some (hoD nn st), some (.int r), some (.tup ((mvs f s).map vD)), some (.lst ((loopsOf st g).map vD)), w5, w6, w7, w8, w9, none] ((loopsOf st g).map vD) S1 = .some ([], S1) := fun w5 w6 w7 w8 w9 =>
      comp_none fun v hv => ⟨_, rfl, by simp_arith [hs1 v hv]⟩
    have hc2 : ∀ w5 w6 w7 w8 w9, compL (tgName 10) (mNot (mTru (mCallP 2 (tb C (k + 11) 36) (mCons (mVar 4) (mCons (mVar 10) (mNil)))))) (mVar 10) [some (.ref N), some (hoD nn st), some (.int r), some (.tup ((mvs f s).map vD)), some (.lst ((loopsOf st g).map vD)), w5, w6, w7, w8, w9, none] ((mvs f s).map vD) S1 = .some ([], S1) := fun w5 w6 w7 w8 w9 =>
      comp_none fun v hv => ⟨_, rfl, by simp_arith [hs2 v hv]⟩
    obtain ⟨kn2, f2, s2, hrg, T2⟩ := room_gaps_ok (C := C) (k := k + 4) (S := S1) H okT_tupl_ho hr0 hr1
    obtain ⟨gl, hlg, hGN, hshut⟩ := lgaps_ok (C := C) (k := k + 9) (S := S1) H hr0 hr1
    have G2 := hGN.gaps hshut
    refine ⟨[some (.ref N), some (hoD nn st), some (.int r), w3, w4, w5, w6, w7, w8, w9, none], by rw [← hr]; rfl, ?_⟩
    simp_arith [hmix, hlm, hlo, hdown, hc1, hc2, fits0, hrg, hlg]
    generalize hS3 : S1 ++ [O.dic (gLD gl)] = S3
    have hget : S3[S1.length]? = some (.dic (gLD gl)) := by rw [← hS3]; exact getLast _ _
    have hB3 : Bx S3 N (100 + 100 * (nn - xs.length)) := by rw [← hS3]; exact hB1.app
    have hc3 : ∀ e0 : MD.Env, (∃ a b c d e g h i j, e0 = [a, b, c, d, e, none, g, h, i, j, none]) → compL (tgTup 2 (tgCons (tgName 5) (tgCons (tgName 10) (tgNil)))) (mTest (mOp2 MD.gIsntN (mVar 10) (mC .non))) (mVar 5) e0 (numD 0 ((List.range nn).map fun (i : Nat) => gapD kn2 f2 s2 i)) S3
        = .some ((((List.range nn).filter fun (i : Nat) => (lkp kn2 (i : Int)).isSome).map (fun (i : Nat) => (i : Int))).map .int, S3) := by
      rintro e0 ⟨a, b, c, d, e, g, h, i, j, rfl⟩
      rw [numD_map, zipIdx_range, List.map_map, compL_pure (p := fun i : Nat => (lkp kn2 (i : Int)).isSome) (f := fun i : Nat => .int (i : Int)) fun i _ => ?_]
      · rw [List.map_map]; rfl
      · refine ⟨_, rfl, ?_, ?_⟩
        · unfold gapD
          cases lkp kn2 (i : Int) with
          | none => simp_arith []; rfl
          | some o => simp_arith [isNon_v]; rfl
        · intro _
          simp_arith []
    have hf3 : ∀ S0 : Store, fits ((((List.range nn).filter fun (i : Nat) => (lkp kn2 (i : Int)).isSome).map (fun (i : Nat) => (i : Int))).map .int) S0 = .some ((((List.range nn).filter fun (i : Nat) => (lkp kn2 (i : Int)).isSome).map (fun (i : Nat) => (i : Int))).map .int, S0) := fun S0 => fits_of (sizeLine_ge (by
      have := List.length_filter_le (fun (i : Nat) => (lkp kn2 (i : Int)).isSome) (List.range nn)
      simp at this ⊢; omega))
    have hsort : MD.gSortU S3 [.ref S1.length] = some ((sortI (kyv gl)).map .int) := by
      have hd : dicOf S3 (.ref S1.length) = some (gLD gl) := by unfold dicOf; simp only [hget]
      unfold MD.gSortU
      simp only [hd, keyI_g]
      rw [if_pos]
      have := hGN.le
      simp [kyv]; omega
    have heq := sort_same T2.gaps hGN.nodup hGN.rng G2
    have hne : ∀ S0 : Store, MD.gNe S0 (.lst ((((List.range nn).filter fun (i : Nat) => (lkp kn2 (i : Int)).isSome).map (fun (i : Nat) => (i : Int))).map .int)) (.lst ((sortI (kyv gl)).map .int)) = some (.bl false) := fun S0 => by
      rw [ne_ints, heq]; simp
    simp_arith [subH0, hc3 _ ⟨_, _, _, _, _, _, _, _, _, rfl⟩, hf3, hsort, hne]
    have hlenD : (gLD gl).length < 1000000 := by rw [gLD_len]; have := hGN.le; omega
    have hgetT : (S3.set S1.length (.dlk (gLD gl)))[S1.length]? = some (.dlk (gLD gl)) := by rw [List.getElem?_set_self (List.getElem?_eq_some_iff.mp hget).1]
    generalize hT : S3.set S1.length (.dlk (gLD gl)) = ST at hgetT
    have hkey : ∀ p : Key × D, p ∈ gLD gl → ∃ (kk : Int) (d : V2), p = (.inl kk, vD d) ∧ lkv gl kk = some d ∧ 0 ≤ kk ∧ kk < nn ∧ Path st r kk d := fun p hp => by
      obtain ⟨q, hq, rfl⟩ := List.mem_map.mp hp
      have hk := hGN.rng q.1 (List.mem_map.mpr ⟨q, hq, rfl⟩)
      exact ⟨q.1, q.2, rfl, lkv_mem hGN.nodup hq, hk.1, hk.2, hGN.sound q hq⟩
    have hgap : ∀ (kk : Int) (d : V2), 0 ≤ kk → kk < nn → Path st r kk d → ∃ o, lkp kn2 kk = some o ∧ atI ((List.range nn).map fun (i : Nat) => gapD kn2 f2 s2 i) kk = some (vD (redO f2 s2 o).1) ∧ Path st r kk (redO f2 s2 o).1 ∧ (redO f2 s2 o).1.1.natAbs < 2 ^ 800 ∧ (redO f2 s2 o).1.2.natAbs < 2 ^ 800 := fun kk d h0 h1 hp => by
      obtain ⟨o, ho⟩ := told_some T2 hp
      exact ⟨o, ho, gap_at h0 h1 ho, gap_path T2 ho, gap_bound T2 h6 ho⟩
    refine sat_forK (n := S1.length) (l := gLD gl) rfl hget hlenD (fun ps e => ∃ w5 w8 w9, e = [some (.ref N), some (hoD nn st), some (.int r), some (.tup ((mvs f s).map vD)), some (.lst ((loopsOf st g).map vD)), w5, some (.tup ((List.range nn).map fun (i : Nat) => gapD kn2 f2 s2 i)), some (.ref S1.length), w8, w9, none]) ?_ ⟨w5, w8, w9, rfl⟩ ?_
    · rintro p ps e hp ⟨w5, w8, w9, rfl⟩
      obtain ⟨kk, d, rfl, hd, k0, k1, hpath⟩ := hkey p hp
      obtain ⟨o, ho, hat, hgp, hgb1, hgb2⟩ := hgap kk d k0 k1 hpath
      have hdb := hGN.small h6 hd
      have hlk : (lkv gl kk).map vD = some (vD d) := by rw [hd]; rfl
      have hng : ∀ S0 : Store, callP 2 (tb C (k + 11) 29) [.int (-1), vD d] S0 = .some (vD (-d.1, -d.2), S0) := fun S0 => neg_ok (by
        have p : (2 : Nat) ^ 6 ≤ 2 ^ 2000 := pow_le (by decide)
        constructor <;> omega)
      generalize hgv : (redO f2 s2 o).1 = gv at hat hgp hgb1 hgb2
      have hsum := hs3 (gv.1 + -d.1, gv.2 + -d.2) ((hgp.diff hpath).cast (by simp only [Prod.mk.injEq]; omega)) (by constructor <;> simp only <;> omega)
      have hc4 : ∀ e0 : MD.Env, (∃ a b c e g h i j, e0 = [a, b, c, some (.tup ((mvs f s).map vD)), e, g, h, i, some (.int gv.1), some (.int gv.2), j]) → compL (tgName 10) (mOr (mAnd (mTest (mOp2 MD.gGt (mOp2 MD.gSub (mVar 10) (mC (.int 0))) (mC (.int 0)))) (mNot (mTest (mChain MD.gLe MD.gLt (mC (.int 0)) (mVar 8) (mOp2 MD.gSub (mVar 10) (mC (.int 0))))))) (mAnd (mTest (mOp2 MD.gEq (mOp2 MD.gSub (mVar 10) (mC (.int 0))) (mC (.int 0)))) (mNot (mTest (mChain MD.gLe MD.gLt (mC (.int 0)) (mVar 9) (mOp2 MD.gSub (mVar 10) (mC (.int 1)))))))) (mVar 10) e0 ((mvs f s).map vD) ST = .some ([], ST) := by
        rintro e0 ⟨a, b, c, e, g, h, i, j, rfl⟩
        refine comp_none fun w hw => ⟨_, rfl, ?_⟩
        have hq := mvs_rng T (o := o.1) w hw
        have hsame := told_same T T2 (Path.refl)
        rw [hsame.1, hsame.2, ← redO_fst, hgv] at hq
        have hz : (decide (0 < w.1) && !(decide (0 ≤ gv.1) && decide (gv.1 < w.1)) || decide (w.1 = 0) && !(decide (0 ≤ gv.2) && decide (gv.2 < w.2))) = false := by
          by_cases h1 : 0 < w.1
          · have := hq.1 h1
            simp [h1, this.1, this.2]; omega
          · by_cases h2 : w.1 = 0
            · have := hq.2 h2
              simp [h2, this.1, this.2]
            · simp [h1, h2]
        simp_arith [subV0, subV1, hz]
      refine ⟨[some (.ref N), some (hoD nn st), some (.int r), some (.tup ((mvs f s).map vD)), some (.lst ((loopsOf st g).map vD)), some (.int kk), some (.tup ((List.range nn).map fun (i : Nat) => gapD kn2 f2 s2 i)), some (.ref S1.length), w8, w9, none], rfl, ?_⟩
      rw [hT]
      simp_arith [hat, tup2_v, hgetT, look_g, hlk, hng, plus_ok, hsum, hc4 _ ⟨_, _, _, _, _, _, _, _, rfl⟩, fits0]
      exact sat_some.mpr ⟨_, .inl rfl, _, _, _, rfl⟩
    · rintro e ⟨w5, w8, w9, rfl⟩
      rw [← seqS_id (r := msForK _ _ _ _ _ _)]
      refine sat_forK (n := S1.length) (l := gLD gl) rfl hget hlenD (fun ps e => ∃ w5, e = [some (.ref N), some (hoD nn st), some (.int r), some (.tup ((mvs f s).map vD)), some (.lst ((loopsOf st g).map vD)), w5, some (.tup ((List.range nn).map fun (i : Nat) => gapD kn2 f2 s2 i)), some (.ref S1.length), w8, w9, none]) ?_ ⟨w5, rfl⟩ ?_
      · rintro p ps e hp ⟨w5, rfl⟩
        obtain ⟨kk, d, rfl, hd, k0, k1, hpath⟩ := hkey p hp
        obtain ⟨o, ho, hat, hgp, hgb1, hgb2⟩ := hgap kk d k0 k1 hpath
        generalize hgv : (redO f2 s2 o).1 = gv at hat hgp hgb1 hgb2
        obtain ⟨kn3, f3, s3, hlm3, T3⟩ := loop_moves_ok (C := C) (k := k + 4) (S := ST) H okT_tupl_ho k0 k1
        obtain ⟨kn4, f4, s4, hrg4, T4⟩ := room_gaps_ok (C := C) (k := k + 4) (S := ST) H okT_tupl_ho k0 k1
        have hsm3 : mvs f3 s3 = mvs f s := by
          have := told_same T T3 hpath
          rw [mvs_gens, mvs_gens, this.1, this.2]
        rw [hsm3] at hlm3
        have hsame := fun S0 => same_moves (C := C) (k := k + 8) (S := S0) (vs := mvs f s) (by have := (mvs_fit T).1; omega)
        obtain ⟨o5, ho5, hz5⟩ := told_self T4
        have hat5 := gap_at (f := f4) (s := s4) k0 k1 ho5
        rw [hz5] at hat5
        have hsz : ∀ S0 : Store, callP 2 (tb C (k + 11) 27) [vD (0, 0), .tup [.int 0, .int 0]] S0 = .some (.bl true, S0) := fun S0 => same_ok 1 (vD (0, 0)) (k + 9) S0 rfl
        obtain ⟨o6, ho6⟩ := told_some T4 hpath.symm
        have hat6 := gap_at (f := f4) (s := s4) hr0 hr1 ho6
        have hp6 := gap_path T4 ho6
        have hb6 := gap_bound T4 h6 ho6
        generalize hu : (redO f4 s4 o6).1 = u at hat6 hp6 hb6
        have hsum := hs3 (u.1 + gv.1, u.2 + gv.2) ((hgp.trans hp6).cast (by simp only [Prod.mk.injEq]; omega)) (by constructor <;> simp only <;> omega)
        refine ⟨[some (.ref N), some (hoD nn st), some (.int r), some (.tup ((mvs f s).map vD)), some (.lst ((loopsOf st g).map vD)), some (.int kk), some (.tup ((List.range nn).map fun (i : Nat) => gapD kn2 f2 s2 i)), some (.ref S1.length), w8, w9, none], rfl, ?_⟩
        rw [hT]
        simp_arith [hlm3, hsame, hrg4, hat5, hsz, hat6, hat, plus_ok, hsum]
        exact sat_some.mpr ⟨_, .inl rfl, _, rfl⟩
      · rintro e ⟨w5, rfl⟩
        simp_arith []
        exact sat_some.mpr ⟨_, _, _, _, _, _, _, _, rfl, hB3, by omega, fun j hj => hlt j (List.mem_cons_of_mem _ hj)⟩
  · rintro e S0 ⟨w2, w3, w4, w5, w6, w7, w8, w9, rfl, hB, hle, hlt⟩
    simp_arith []
    exact sat_some.mpr ⟨_, _, rfl, rfl⟩
end P54
set_option Elab.async false
set_option linter.all false
set_option maxRecDepth 100000
set_option maxHeartbeats 4000000
set_option exponentiation.threshold 100
namespace P54
open PySem PySem.Spec PyProof.Rows L2 MD K54 LT
variable {C : Addr} {k n m : Nat} {S S' : Store}
def isTrue1 (r : Out (D × Store)) : Bool := match r with
  | .some (.bl true, _) => true
  | _ => false
theorem isTrue1_of {r : Out (D × Store)} (h : isTrue1 r = true) : ∃ S2, r = .some (.bl true, S2) := by
  unfold isTrue1 at h
  split at h
  · exact ⟨_, rfl⟩
  · cases h
set_option maxHeartbeats 0 in
set_option cbv.maxSteps 100000000 in
theorem by_hand_run (C : Addr) : isTrue1 (tb C 59 38 [] []) = true := by cbv
theorem by_hand_ok : callP 0 (tb C 59 38) [] S = .some (.bl true, S) := by
  obtain ⟨S2, h⟩ := isTrue1_of (by_hand_run C)
  exact callP_of rfl (by simp_arith) h rfl
/-- a row of Trues -/
theorem trues {ys : List D} (h : ∀ (i : Nat) y, ys[i]? = some y → y = .bl true) : blsOf ys = some (ys.map fun _ => true) := by
  induction ys with
  | nil => rfl
  | cons y ys ih =>
    have h0 := h 0 y rfl
    subst h0
    show (blsOf ys).map _ = _
    rw [ih fun i y hy => h (i + 1) y (by simpa using hy)]
    rfl
theorem all_trues {α : Type} {ys : List α} : (ys.map fun _ => true).all id = true := by simp
theorem plain_holds : K54.Plain := by
  intro C ns h63 hb
  obtain ⟨cs, hcs, c1, c2, hcb⟩ := cells_ok (C := C) (k := 58) (S := []) h63 hb
  have p : (2 : Nat) ^ 1048700 + 2 ^ 1048700 ≤ 2 ^ 2000000 := by
    have e : (2 : Nat) ^ 1048701 ≤ 2 ^ 2000000 := pow_le (by decide)
    rw [Nat.pow_succ] at e
    omega
  have p2 : (2 : Nat) ^ 4 ≤ 2 ^ 1048700 := pow_le (by decide)
  generalize (2 : Nat) ^ 1048700 = A at hcb p p2
  generalize hE : (2 : Nat) ^ 2000000 = E at p
  have hadd : ∀ (lap : Int) (S0 : Store) (e0 : MD.Env), (∃ a b c, e0 = [a, b, c, some (.int lap), none]) → compL (tgName 4) mYes (mOp2 MD.gAdd (mVar 4) (mVar 3)) e0 (cs.map .int) S0 = .some ((cs.map (· + lap)).map .int, S0) := by
    rintro lap S0 e0 ⟨a, b, c, rfl⟩
    rw [compL_all (f := fun c : Int => .int (c + lap)) fun c _ => ⟨_, rfl, by simp_arith []⟩, List.map_map]
    rfl
  have hfit : ∀ (lap : Int) (S0 : Store), fits ((cs.map (· + lap)).map .int) S0 = .some ((cs.map (· + lap)).map .int, S0) := fun lap S0 => fits_of (sizeLine_ge (by simp; omega))
  -- a lap
  have lapR : ∀ (lap : Int) (i : Nat) (S0 : Store), lap.natAbs < 16 → i < cs.length → ∃ S1, callT 2 (tb C 59 22) [.lst ((cs.map (· + lap)).map .int), .int (i : Int)] S0 = .some (.ref S0.length, S1) ∧ ∃ S2, callT 1 (tb C 59 39) [.ref S0.length] S1 = .some (.bl true, S2) := by
    intro lap i S0 hl hi
    obtain ⟨o, h1, h2⟩ := box_ok (C := C) (k := 58) (S := S0) (cs := cs.map (· + lap)) (i := i) (fun c hc => by
      obtain ⟨d, hd, rfl⟩ := List.mem_map.mp hc
      have := hcb d hd
      rw [hE]
      omega) (by omega) (by simpa using hi)
    obtain ⟨d, S2, h3, rfl⟩ := right_ok (C := C) (k := 47) h2
    exact ⟨_, h1, S2, h3⟩
  have inner : ∀ (i : Nat) (S0 : Store) (e0 : MD.Env), i < cs.length → (∃ a, e0 = [a, some (.lst (cs.map .int)), some (.int (i : Int)), none, none]) → ∃ ys S2, compL (tgName 3) mYes (mCall 1 (tb C 59 39) (mCons (mCall 2 (tb C 59 22) (mCons (mFrz (mLc 1000000 [4] (mSeqI (mVar 1)) (tgName 4) (mYes) (mOp2 MD.gAdd (mVar 4) (mVar 3)))) (mCons (mVar 2) (mNil)))) (mNil))) e0 [.int 0, .int 2, .int 7] S0 = .some (ys, S2) ∧ ys.length = 3 ∧ blsOf ys = some (ys.map fun _ => true) := by
    rintro i S0 e0 hi ⟨a, rfl⟩
    obtain ⟨ys, S2, h1, -, h3, h4⟩ := compL_inv (tg := tgName 3) (me := mCall 1 (tb C 59 39) (mCons (mCall 2 (tb C 59 22) (mCons (mFrz (mLc 1000000 [4] (mSeqI (mVar 1)) (tgName 4) (mYes) (mOp2 MD.gAdd (mVar 4) (mVar 3)))) (mCons (mVar 2) (mNil)))) (mNil))) (e0 := [a, some (.lst (cs.map .int)), some (.int (i : Int)), none, none]) (enc := D.int) (fun xs _ => ∀ x ∈ xs, x.natAbs < 16) (fun _ y => y = .bl true)
      (by
        intro x xs S0 hx
        obtain ⟨S1, h1, S2, h2⟩ := lapR x i S0 (hx x (List.mem_cons_self ..)) hi
        exact ⟨_, rfl, .bl true, S2, by simp_arith [hadd x S0 _ ⟨_, _, _, rfl⟩, hfit, h1, h2], rfl, fun y hy => hx y (List.mem_cons_of_mem _ hy)⟩)
      [0, 2, 7] S0 (by simp)
    refine ⟨ys, S2, h1, h3, trues fun j y hy => ?_⟩
    have hj := (List.getElem?_eq_some_iff.mp hy).1
    exact h4 j _ y (List.getElem?_eq_getElem (by rw [← h3]; exact hj)) hy
  have outer : ∀ (S0 : Store) (e0 : MD.Env), (∃ a, e0 = [a, some (.lst (cs.map .int)), none, none, none]) → ∃ ys S2, compL (tgName 2) mYes (mOpN MD.gAll (mCons (mFrz (mLc 1000000 [3] (mSeqI (mOpN MD.gTup (mCons (mC (.int 0)) (mCons (mC (.int 2)) (mCons (mC (.int 7)) (mNil)))))) (tgName 3) (mYes) (mCall 1 (tb C 59 39) (mCons (mCall 2 (tb C 59 22) (mCons (mFrz (mLc 1000000 [4] (mSeqI (mVar 1)) (tgName 4) (mYes) (mOp2 MD.gAdd (mVar 4) (mVar 3)))) (mCons (mVar 2) (mNil)))) (mNil))))) (mNil))) e0 (rngD 0 cs.length) S0 = .some (ys, S2) ∧ ys.length = cs.length ∧ blsOf ys = some (ys.map fun _ => true) := by
    rintro S0 e0 ⟨a, rfl⟩
    rw [rngD_map]
    obtain ⟨ys, S2, h1, -, h3, h4⟩ := compL_inv (tg := tgName 2) (me := mOpN MD.gAll (mCons (mFrz (mLc 1000000 [3] (mSeqI (mOpN MD.gTup (mCons (mC (.int 0)) (mCons (mC (.int 2)) (mCons (mC (.int 7)) (mNil)))))) (tgName 3) (mYes) (mCall 1 (tb C 59 39) (mCons (mCall 2 (tb C 59 22) (mCons (mFrz (mLc 1000000 [4] (mSeqI (mVar 1)) (tgName 4) (mYes) (mOp2 MD.gAdd (mVar 4) (mVar 3)))) (mCons (mVar 2) (mNil)))) (mNil))))) (mNil))) (e0 := [a, some (.lst (cs.map .int)), none, none, none]) (enc := fun i : Nat => D.int (i : Int)) (fun xs _ => ∀ x ∈ xs, x < cs.length) (fun _ y => y = .bl true)
      (by
        intro x xs S0 hx
        obtain ⟨ys, S2, h1, h2, h3⟩ := inner x S0 _ (hx x (List.mem_cons_self ..)) ⟨a, rfl⟩
        have hf : ∀ S0 : Store, fits ys S0 = .some (ys, S0) := fun S0 => fits_of (sizeLine_ge (by omega))
        exact ⟨_, rfl, .bl true, S2, by simp_arith [h1, hf, h3, all_trues], rfl, fun y hy => hx y (List.mem_cons_of_mem _ hy)⟩)
      (List.range cs.length) S0 (fun x hx => List.mem_range.mp hx)
    refine ⟨ys, S2, h1, by simpa using h3, trues fun j y hy => ?_⟩
    have hj := (List.getElem?_eq_some_iff.mp hy).1
    exact h4 j _ y (List.getElem?_eq_getElem (by rw [← h3]; exact hj)) hy
  obtain ⟨ys, S2, h1, h2, h3⟩ := outer [] _ ⟨some (.scr (ns.map .int)), rfl⟩
  have hf : ∀ S0 : Store, fits ys S0 = .some (ys, S0) := fun S0 => fits_of (sizeLine_ge (by omega))
  have hrn : ∀ S0 : Store, rng1 [.int (cs.length : Int)] S0 = .some (.fix (rngD 0 cs.length), S0) := fun S0 => rng1_nat (by omega)
  refine ⟨S2, mkF_rt (?_ : b_law C (tb C 59) [some (.scr (ns.map .int)), none, none, none, none] [] = _)⟩
  simp_arith [b_law, hcs, by_hand_ok, hrn, h1, hf, h3, all_trues]
end P54
open PySem PySem.W PyProof.Rows L2 MD
set_option maxHeartbeats 0 in
theorem PySem.Challenge.cw_twocounters_k54_loops_and_gaps_holds : PySem.Challenge.rw_twocounters_k54_loops_and_gaps.Holds := by
  w_on; o_law; k_head; (case hw => w_witness2)
  k_fill
  refine L2.walk_ofB (l := PySem.Challenge.rw_twocounters_k54_loops_and_gaps) (n := 63) (k := 60) (x := "script") (CX := fun w => L2.CX PySem.Challenge.rw_twocounters_k54_loops_and_gaps.prog w) (sp := fun w => MD.spLaw _) rfl (by decide) rfl ⟨rfl, by decide, by decide⟩ (fun w h Y => PySem.W.kIn_of Y) ?F (fun _ _ a ns hl hb _ hS => ⟨a, ns, rfl, hS, hl, hb, fun _ => rfl⟩) (fun _ _ _ _ _ x => cx_no x)
  case F =>
    intro w mg fa h KX G hmg
    refine' K54.all_mk P54.plain_holds KX G hmg ⟨?z_abs, ?z_all, ?z_any, ?z_bool, ?z_enumerate, ?z_int, ?z_isinstance, ?z_len, ?z_list, ?z_max, ?z_range, ?z_sorted, ?z_str, ?z_tuple, ?z_zip, num_mk ?k_MOST_ROOMS ?kv_MOST_ROOMS, num_mk ?k_MOST_SPEED ?kv_MOST_SPEED, num_mk ?k_MOST_STEPS ?kv_MOST_STEPS, exc_mk ?x0_Unfit ?x1_Unfit ?x2_Unfit ⟨?x3_Unfit, ?x4_Unfit⟩, h1_mk ?ha_is_number ?hl_is_number ?hc_is_number ?hk_is_number, h1_mk ?ha_is_within ?hl_is_within ?hc_is_within ?hk_is_within, h1_mk ?ha_sure_within ?hl_sure_within ?hc_sure_within ?hk_sure_within, h1_mk ?ha_is_long ?hl_is_long ?hc_is_long ?hk_is_long, h1_mk ?ha_are_numbers ?hl_are_numbers ?hc_are_numbers ?hk_are_numbers, h1_mk ?ha_tupled ?hl_tupled ?hc_tupled ?hk_tupled, h1_mk ?ha_is_move ?hl_is_move ?hc_is_move ?hk_is_move, h1_mk ?ha_taken ?hl_taken ?hc_taken ?hk_taken, h1_mk ?ha_often ?hl_often ?hc_often ?hk_often, h1_mk ?ha_is_step_of ?hl_is_step_of ?hc_is_step_of ?hk_is_step_of, h1_mk ?ha_is_house_of ?hl_is_house_of ?hc_is_house_of ?hk_is_house_of, h1_mk ?ha_sure_house ?hl_sure_house ?hc_sure_house ?hk_sure_house, h1_mk ?ha_less_in ?hl_less_in ?hc_less_in ?hk_less_in, h1_mk ?ha_turned_about ?hl_turned_about ?hc_turned_about ?hk_turned_about, h1_mk ?ha_divided_on ?hl_divided_on ?hc_divided_on ?hk_divided_on, h1_mk ?ha_lattice_in ?hl_lattice_in ?hc_lattice_in ?hk_lattice_in, h1_mk ?ha_brought_down ?hl_brought_down ?hc_brought_down ?hk_brought_down, h1_mk ?ha_told_in ?hl_told_in ?hc_told_in ?hk_told_in, h1_mk ?ha_sure_room ?hl_sure_room ?hc_sure_room ?hk_sure_room, h1_mk ?ha_moves_of ?hl_moves_of ?hc_moves_of ?hk_moves_of, h1_mk ?ha_loop_moves ?hl_loop_moves ?hc_loop_moves ?hk_loop_moves, h1_mk ?ha_room_gaps ?hl_room_gaps ?hc_room_gaps ?hk_room_gaps, h1_mk ?ha__law_box ?hl__law_box ?hc__law_box ?hk__law_box, h1_mk ?ha__law_take ?hl__law_take ?hc__law_take ?hk__law_take, h1_mk ?ha__law_cells ?hl__law_cells ?hc__law_cells ?hk__law_cells, h1_mk ?ha__law_of ?hl__law_of ?hc__law_of ?hk__law_of, h1_mk ?ha__law_mixed ?hl__law_mixed ?hc__law_mixed ?hk__law_mixed, h1_mk ?ha__law_same ?hl__law_same ?hc__law_same ?hk__law_same, h1_mk ?ha__law_plus ?hl__law_plus ?hc__law_plus ?hk__law_plus, h1_mk ?ha__law_often ?hl__law_often ?hc__law_often ?hk__law_often, h1_mk ?ha__law_move ?hl__law_move ?hc__law_move ?hk__law_move, h1_mk ?ha__law_house ?hl__law_house ?hc__law_house ?hk__law_house, h1_mk ?ha__law_divisor ?hl__law_divisor ?hc__law_divisor ?hk__law_divisor, h1_mk ?ha__law_gaps ?hl__law_gaps ?hc__law_gaps ?hk__law_gaps, h1_mk ?ha__law_loops ?hl__law_loops ?hc__law_loops ?hk__law_loops, h1_mk ?ha__law_minors ?hl__law_minors ?hc__law_minors ?hk__law_minors, h1_mk ?ha__law_is_sum ?hl__law_is_sum ?hc__law_is_sum ?hk__law_is_sum, h1_mk ?ha__law_is_down ?hl__law_is_down ?hc__law_is_down ?hk__law_is_down, h1_mk ?ha__law_by_hand_right ?hl__law_by_hand_right ?hc__law_by_hand_right ?hk__law_by_hand_right, h1_mk ?ha__law_right ?hl__law_right ?hc__law_right ?hk__law_right, h1_mk ?ha_law ?hl_law ?hc_law ?hk_law⟩
    (case x0_Unfit => k_is); (case x1_Unfit => k_exc); (case x2_Unfit => k_is); (case x3_Unfit => k_is); (case x4_Unfit => k_is)
    (case z_abs => k_is)
    (case z_all => k_is)
    (case z_any => k_is)
    (case z_bool => k_is)
    (case z_enumerate => k_is)
    (case z_int => k_is)
    (case z_isinstance => k_is)
    (case z_len => k_is)
    (case z_list => k_is)
    (case z_max => k_is)
    (case z_range => k_is)
    (case z_sorted => k_is)
    (case z_str => k_is)
    (case z_tuple => k_is)
    (case z_zip => k_is)
    (case k_MOST_ROOMS => k_is); (case kv_MOST_ROOMS => exact ⟨_, rfl⟩)
    (case k_MOST_SPEED => k_is); (case kv_MOST_SPEED => exact ⟨_, rfl⟩)
    (case k_MOST_STEPS => k_is); (case kv_MOST_STEPS => exact ⟨_, rfl⟩)
    (case ha_is_number => k_is); (case hl_is_number => k_is); (case hc_is_number => k_is); (case hk_is_number => k_is)
    (case ha_is_within => k_is); (case hl_is_within => k_is); (case hc_is_within => k_is); (case hk_is_within => k_is)
    (case ha_sure_within => k_is); (case hl_sure_within => k_is); (case hc_sure_within => k_is); (case hk_sure_within => k_is)
    (case ha_is_long => k_is); (case hl_is_long => k_is); (case hc_is_long => k_is); (case hk_is_long => k_is)
    (case ha_are_numbers => k_is); (case hl_are_numbers => k_is); (case hc_are_numbers => k_is); (case hk_are_numbers => k_is)
    (case ha_tupled => k_is); (case hl_tupled => k_is); (case hc_tupled => k_is); (case hk_tupled => k_is)
    (case ha_is_move => k_is); (case hl_is_move => k_is); (case hc_is_move => k_is); (case hk_is_move => k_is)
    (case ha_taken => k_is); (case hl_taken => k_is); (case hc_taken => k_is); (case hk_taken => k_is)
    (case ha_often => k_is); (case hl_often => k_is); (case hc_often => k_is); (case hk_often => k_is)
    (case ha_is_step_of => k_is); (case hl_is_step_of => k_is); (case hc_is_step_of => k_is); (case hk_is_step_of => k_is)
    (case ha_is_house_of => k_is); (case hl_is_house_of => k_is); (case hc_is_house_of => k_is); (case hk_is_house_of => k_is)
    (case ha_sure_house => k_is); (case hl_sure_house => k_is); (case hc_sure_house => k_is); (case hk_sure_house => k_is)
    (case ha_less_in => k_is); (case hl_less_in => k_is); (case hc_less_in => k_is); (case hk_less_in => k_is)
    (case ha_turned_about => k_is); (case hl_turned_about => k_is); (case hc_turned_about => k_is); (case hk_turned_about => k_is)
    (case ha_divided_on => k_is); (case hl_divided_on => k_is); (case hc_divided_on => k_is); (case hk_divided_on => k_is)
    (case ha_lattice_in => k_is); (case hl_lattice_in => k_is); (case hc_lattice_in => k_is); (case hk_lattice_in => k_is)
    (case ha_brought_down => k_is); (case hl_brought_down => k_is); (case hc_brought_down => k_is); (case hk_brought_down => k_is)
    (case ha_told_in => k_is); (case hl_told_in => k_is); (case hc_told_in => k_is); (case hk_told_in => k_is)
    (case ha_sure_room => k_is); (case hl_sure_room => k_is); (case hc_sure_room => k_is); (case hk_sure_room => k_is)
    (case ha_moves_of => k_is); (case hl_moves_of => k_is); (case hc_moves_of => k_is); (case hk_moves_of => k_is)
    (case ha_loop_moves => k_is); (case hl_loop_moves => k_is); (case hc_loop_moves => k_is); (case hk_loop_moves => k_is)
    (case ha_room_gaps => k_is); (case hl_room_gaps => k_is); (case hc_room_gaps => k_is); (case hk_room_gaps => k_is)
    (case ha__law_box => k_is); (case hl__law_box => k_is); (case hc__law_box => k_is); (case hk__law_box => k_is)
    (case ha__law_take => k_is); (case hl__law_take => k_is); (case hc__law_take => k_is); (case hk__law_take => k_is)
    (case ha__law_cells => k_is); (case hl__law_cells => k_is); (case hc__law_cells => k_is); (case hk__law_cells => k_is)
    (case ha__law_of => k_is); (case hl__law_of => k_is); (case hc__law_of => k_is); (case hk__law_of => k_is)
    (case ha__law_mixed => k_is); (case hl__law_mixed => k_is); (case hc__law_mixed => k_is); (case hk__law_mixed => k_is)
    (case ha__law_same => k_is); (case hl__law_same => k_is); (case hc__law_same => k_is); (case hk__law_same => k_is)
    (case ha__law_plus => k_is); (case hl__law_plus => k_is); (case hc__law_plus => k_is); (case hk__law_plus => k_is)
    (case ha__law_often => k_is); (case hl__law_often => k_is); (case hc__law_often => k_is); (case hk__law_often => k_is)
    (case ha__law_move => k_is); (case hl__law_move => k_is); (case hc__law_move => k_is); (case hk__law_move => k_is)
    (case ha__law_house => k_is); (case hl__law_house => k_is); (case hc__law_house => k_is); (case hk__law_house => k_is)
    (case ha__law_divisor => k_is); (case hl__law_divisor => k_is); (case hc__law_divisor => k_is); (case hk__law_divisor => k_is)
    (case ha__law_gaps => k_is); (case hl__law_gaps => k_is); (case hc__law_gaps => k_is); (case hk__law_gaps => k_is)
    (case ha__law_loops => k_is); (case hl__law_loops => k_is); (case hc__law_loops => k_is); (case hk__law_loops => k_is)
    (case ha__law_minors => k_is); (case hl__law_minors => k_is); (case hc__law_minors => k_is); (case hk__law_minors => k_is)
    (case ha__law_is_sum => k_is); (case hl__law_is_sum => k_is); (case hc__law_is_sum => k_is); (case hk__law_is_sum => k_is)
    (case ha__law_is_down => k_is); (case hl__law_is_down => k_is); (case hc__law_is_down => k_is); (case hk__law_is_down => k_is)
    (case ha__law_by_hand_right => k_is); (case hl__law_by_hand_right => k_is); (case hc__law_by_hand_right => k_is); (case hk__law_by_hand_right => k_is)
    (case ha__law_right => k_is); (case hl__law_right => k_is); (case hc__law_right => k_is); (case hk__law_right => k_is)
    (case ha_law => k_is); (case hl_law => k_is); (case hc_law => k_is); (case hk_law => k_is)
