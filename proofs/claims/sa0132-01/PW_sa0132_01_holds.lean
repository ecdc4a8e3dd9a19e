import PyProof.Rows.All
import Wide.All
import OpenK.AllK
import Wide.FinOn
import Lean
import PySem.Challenge.RW_sa0132_01
set_option Elab.async false
set_option maxRecDepth 100000
set_option linter.unusedVariables false
set_option linter.unusedSimpArgs false
set_option linter.unusedSectionVars false
open PySem PySem.W PyProof.Rows PySem.Calls

namespace Mine

/-- abstract values -/
inductive AV where
  | none | bool (b : Bool) | int (i : Int) | ref (n : Nat) | undef

/-- abstract objects -/
inductive AO where
  | list (vs : List AV) | tup (vs : List AV) | range (lo hi st : Int) | inst (d : Nat) | dict (es : List (Nat × AV)) | junk

noncomputable abbrev Hp := List AO

inductive All2 {α β : Type} (R : α → β → Prop) : List α → List β → Prop
  | nil : All2 R [] []
  | cons {a b l r} : R a b → All2 R l r → All2 R (a :: l) (b :: r)

section
variable {α β : Type} {R R' : α → β → Prop}
theorem All2.mono (h : ∀ a b, R a b → R' a b) : ∀ {l r}, All2 R l r → All2 R' l r
  | _, _, .nil => .nil
  | _, _, .cons x y => .cons (h _ _ x) (y.mono h)
theorem All2.length : ∀ {l r}, All2 R l r → l.length = r.length
  | _, _, .nil => rfl
  | _, _, .cons _ y => by rw [List.length_cons, List.length_cons, y.length]
theorem All2.get : ∀ {l : List α} {r : List β}, All2 R l r → ∀ {n : Nat} {a : α}, l[n]? = some a → ∃ b, r[n]? = some b ∧ R a b
  | _, _, .nil, n, a, e => by simp at e
  | _, _, .cons (b := b) x y, 0, a, e => ⟨b, rfl, by simp at e; exact e ▸ x⟩
  | _, _, .cons x y, n + 1, a, e => by
    simp only [List.getElem?_cons_succ] at e ⊢
    exact y.get e
theorem All2.set : ∀ {l r}, All2 R l r → ∀ {n a b}, R a b → All2 R (l.set n a) (r.set n b)
  | _, _, .nil, _, _, _, _ => by simp; exact .nil
  | _, _, .cons x y, 0, a, b, h => by simp; exact .cons h y
  | _, _, .cons x y, n + 1, a, b, h => by simp; exact .cons x (y.set h)
theorem All2.append : ∀ {l r l' r'}, All2 R l r → All2 R l' r' → All2 R (l ++ l') (r ++ r')
  | _, _, _, _, .nil, h => h
  | _, _, _, _, .cons x y, h => .cons x (y.append h)
theorem All2.take : ∀ {l r}, All2 R l r → ∀ n, All2 R (l.take n) (r.take n)
  | _, _, _, 0 => by simp; exact .nil
  | _, _, .nil, _ + 1 => by simp; exact .nil
  | _, _, .cons x y, n + 1 => by simp; exact .cons x (y.take n)
end

noncomputable def Is (ad : List Addr) : AV → Value → Prop
  | .none, v => v = Value.none
  | .bool b, v => v = Value.bool b
  | .int i, v => ∃ t, v = Value.int i t
  | .ref n, v => ∃ a, ad[n]? = some a ∧ v = Value.ref a
  | .undef, _ => False

/-- the world: program, model, the known part of the heap and what is known of its classes -/
structure Wd where
  prog : Program
  w : World
  K : Frag
  p : Program
  loose : List Str
  mean : ExcName → Option Value
  mg : Str → Option Value
  mb : Str → Option Value
  attrs : List Str
  clss : List Addr
  ftab : List Value
  hCls : ∀ C ∈ clss, hasDictIn K C = true ∧ findIn K (.ref C) (Str.ofString "__setattr__") = some (some (.builtin "object.__setattr__")) ∧ plainOver K C = true
  hAttr : ∀ C ∈ clss, ∀ x ∈ attrs, plainGet K C x = true ∧ (∃ at', findIn K (.ref C) x = some at' ∧ noGet K at' = true) ∧ takerIn K C x = some none
  hNd : attrs.Nodup
  hKeep : ∀ v ∈ ftab, keepIn K v = true

noncomputable def At (Z : Wd) (ad : List Addr) : AO → Obj → Prop
  | .list vs, O => ∃ items n, O = W.listOf (List.toArray items) n ∧ All2 (Is ad) vs items
  | .tup vs, O => ∃ items n, O = { cls := .type "tuple", data := .seq (List.toArray items) n } ∧ All2 (Is ad) vs items
  | .range lo hi st, O => ∃ t u v, O = { cls := .type "range", dict := none, data := .fields #[.int lo t, .int hi u, .int st v], slots := #[] }
  | .inst d, O => ∃ C dx, C ∈ Z.clss ∧ ad[d]? = some dx ∧ O = instObj C dx
  | .dict es, O => ∃ L n, O = dictOf L n ∧ All2 (fun (p : Nat × AV) (e : DictEntry) => (∃ x t, Z.attrs[p.1]? = some x ∧ e.key = .str x t) ∧ Is ad p.2 e.val) es L
  | .junk, _ => True

theorem get_app {α : Type} {l t : List α} {n : Nat} {a : α} (h : l[n]? = some a) : (l ++ t)[n]? = some a := by
  obtain ⟨hl, e⟩ := List.getElem?_eq_some_iff.mp h
  rw [List.getElem?_append_left hl]
  exact h

theorem nodup_ix {α : Type} : ∀ {l : List α}, l.Nodup → ∀ {i j : Nat} {a : α}, l[i]? = some a → l[j]? = some a → i = j
  | [], _, i, j, a, e, _ => by simp at e
  | b :: r, nd, 0, 0, a, _, _ => rfl
  | b :: r, nd, 0, j + 1, a, e1, e2 => by
    simp at e1 e2
    exact absurd (List.mem_iff_getElem?.mpr ⟨j, e2⟩) (e1 ▸ (List.nodup_cons.mp nd).1)
  | b :: r, nd, i + 1, 0, a, e1, e2 => by
    simp at e1 e2
    exact absurd (List.mem_iff_getElem?.mpr ⟨i, e1⟩) (e2 ▸ (List.nodup_cons.mp nd).1)
  | b :: r, nd, i + 1, j + 1, a, e1, e2 => by
    simp at e1 e2
    rw [nodup_ix (List.nodup_cons.mp nd).2 e1 e2]

theorem Is.mono {ad t : List Addr} : ∀ {v : AV} {x : Value}, Is ad v x → Is (ad ++ t) v x
  | .none, _, h => h
  | .bool _, _, h => h
  | .int _, _, h => h
  | .ref _, _, ⟨a, h, e⟩ => ⟨a, get_app h, e⟩
  | .undef, _, h => h

theorem At.mono {Z : Wd} {ad t : List Addr} : ∀ {o : AO} {O : Obj}, At Z ad o O → At Z (ad ++ t) o O
  | .list _, _, ⟨i, n, e, h⟩ => ⟨i, n, e, h.mono fun _ _ x => x.mono⟩
  | .tup _, _, ⟨i, n, e, h⟩ => ⟨i, n, e, h.mono fun _ _ x => x.mono⟩
  | .range .., _, h => h
  | .inst _, _, ⟨C, dx, h, e, q⟩ => ⟨C, dx, h, get_app e, q⟩
  | .dict _, _, ⟨L, n, e, h⟩ => ⟨L, n, e, h.mono fun _ _ x => ⟨x.1, x.2.mono⟩⟩
  | .junk, _, h => h

structure Rp (Z : Wd) (h₀ : Heap) (L : Addr) (h : Heap) (ad : List Addr) (news : List (Addr × Obj)) (H : Hp) : Prop where
  nw : News h₀ L h news
  nd : (news.map (·.1)).Nodup
  adn : ad.Nodup
  len : ad.length = H.length
  ob : ∀ (n : Nat) (a : Addr) (o : AO), ad[n]? = some a → H[n]? = some o → ∃ O, (a, O) ∈ news ∧ At Z ad o O

structure Gr (ad : List Addr) (news : List (Addr × Obj)) (ad' : List Addr) (news' : List (Addr × Obj)) : Prop where
  pre : ∃ t, ad' = ad ++ t
  ex : ∀ p ∈ news, p.1 ∉ ad → p ∈ news' ∧ p.1 ∉ ad'

theorem Gr.refl {ad : List Addr} {news : List (Addr × Obj)} : Gr ad news ad news := ⟨⟨[], by simp⟩, fun _ h q => ⟨h, q⟩⟩
theorem Gr.trans {ad ad₁ ad₂ : List Addr} {news news₁ news₂ : List (Addr × Obj)} (a : Gr ad news ad₁ news₁) (b : Gr ad₁ news₁ ad₂ news₂) : Gr ad news ad₂ news₂ := by
  obtain ⟨t, rfl⟩ := a.pre
  obtain ⟨u, rfl⟩ := b.pre
  refine ⟨⟨t ++ u, by simp⟩, fun p hp hq => ?_⟩
  obtain ⟨x, y⟩ := a.ex p hp hq
  exact b.ex p x y
theorem Gr.is {ad ad' : List Addr} {news news' : List (Addr × Obj)} (g : Gr ad news ad' news') {v : AV} {x : Value} (h : Is ad v x) : Is ad' v x := by
  obtain ⟨t, rfl⟩ := g.pre
  exact h.mono
theorem Gr.all {ad ad' : List Addr} {news news' : List (Addr × Obj)} (g : Gr ad news ad' news') {v : List AV} {x : List Value} (h : All2 (Is ad) v x) : All2 (Is ad') v x := h.mono fun _ _ q => g.is q

section
variable {Z : Wd} {h₀ h h' : Heap} {L : Addr} {ad : List Addr} {news news' : List (Addr × Obj)} {H : Hp} {a : Addr} {O O' : Obj} {o o' : AO} {n : Nat}

theorem Rp.has (R : Rp Z h₀ L h ad news H) (e : H[n]? = some o) : ∃ a O, ad[n]? = some a ∧ (a, O) ∈ news ∧ At Z ad o O := by
  obtain ⟨hl, _⟩ := List.getElem?_eq_some_iff.mp e
  rw [← R.len] at hl
  have ea : ad[n]? = some ad[n] := List.getElem?_eq_getElem hl
  obtain ⟨O, h1, h2⟩ := R.ob n _ o ea e
  exact ⟨_, O, ea, h1, h2⟩
theorem Rp.hasAt (R : Rp Z h₀ L h ad news H) (ea : ad[n]? = some a) (e : H[n]? = some o) : ∃ O, (a, O) ∈ news ∧ At Z ad o O := R.ob n a o ea e
theorem Rp.mem (R : Rp Z h₀ L h ad news H) {b : Addr} (hb : b ∈ ad) : ∃ O, (b, O) ∈ news := by
  obtain ⟨n, hn⟩ := List.mem_iff_getElem?.mp hb
  obtain ⟨hl, _⟩ := List.getElem?_eq_some_iff.mp hn
  rw [R.len] at hl
  obtain ⟨O, h1, _⟩ := R.ob n b _ hn (List.getElem?_eq_getElem hl)
  exact ⟨O, h1⟩
theorem Rp.same (R : Rp Z h₀ L h ad news H) (N : News h₀ L h' news) : Rp Z h₀ L h' ad news H := ⟨N, R.nd, R.adn, R.len, R.ob⟩

theorem fresh_notin {l : List (Addr × Obj)} (lt : ∀ p ∈ l, p.1 < a) : a ∉ l.map (·.1) := fun q => by
  obtain ⟨p, hp, e⟩ := List.mem_map.mp q
  exact absurd (lt p hp) (e ▸ Nat.lt_irrefl _)
theorem Rp.hide (R : Rp Z h₀ L h ad news H) (N : News h₀ L h' ((a, O) :: news)) (lt : ∀ p ∈ news, p.1 < a) : Rp Z h₀ L h' ad ((a, O) :: news) H ∧ Gr ad news ad ((a, O) :: news) ∧ a ∉ ad := by
  have nn := fresh_notin lt
  refine ⟨⟨N, List.nodup_cons.mpr ⟨nn, R.nd⟩, R.adn, R.len, fun n b o e1 e2 => ?_⟩, ⟨⟨[], by simp⟩, fun p hp hq => ⟨.tail _ hp, hq⟩⟩, fun hq => ?_⟩
  · obtain ⟨O, q1, q2⟩ := R.ob n b o e1 e2
    exact ⟨O, .tail _ q1, q2⟩
  · obtain ⟨O, q⟩ := R.mem hq
    exact absurd (lt _ q) (Nat.lt_irrefl _)
theorem Rp.push (R : Rp Z h₀ L h ad news H) (N : News h₀ L h' ((a, O) :: news)) (lt : ∀ p ∈ news, p.1 < a) (A : At Z (ad ++ [a]) o O) :
    Rp Z h₀ L h' (ad ++ [a]) ((a, O) :: news) (H ++ [o]) ∧ Gr ad news (ad ++ [a]) ((a, O) :: news) ∧ (ad ++ [a])[H.length]? = some a := by
  have nn := fresh_notin lt
  have na : a ∉ ad := fun hq => by
    obtain ⟨O, q⟩ := R.mem hq
    exact absurd (lt _ q) (Nat.lt_irrefl _)
  have el : (ad ++ [a])[H.length]? = some a := by rw [← R.len]; simp
  refine ⟨⟨N, List.nodup_cons.mpr ⟨nn, R.nd⟩, ?_, by simp [R.len], fun n b o' e1 e2 => ?_⟩, ⟨⟨[a], rfl⟩, fun p hp hq => ⟨.tail _ hp, ?_⟩⟩, el⟩
  · rw [List.nodup_append]
    refine ⟨R.adn, by simp, fun x hx y hy => ?_⟩
    rw [List.mem_singleton.mp hy]
    exact fun e => na (e ▸ hx)
  · by_cases hn : n < ad.length
    · rw [List.getElem?_append_left hn] at e1
      rw [List.getElem?_append_left (R.len ▸ hn)] at e2
      obtain ⟨O, q1, q2⟩ := R.ob n b o' e1 e2
      exact ⟨O, .tail _ q1, q2.mono⟩
    · have hle : n < (ad ++ [a]).length := (List.getElem?_eq_some_iff.mp e1).1
      have : n = ad.length := by simp at hle; omega
      subst this
      rw [R.len, List.getElem?_concat_length] at e2
      rw [List.getElem?_concat_length] at e1
      cases e1; cases e2
      exact ⟨O, .head _, A⟩
  · intro hq
    rcases List.mem_append.mp hq with q | q
    · contradiction
    · have := lt p hp
      rw [List.mem_singleton.mp q] at this
      exact absurd this (Nat.lt_irrefl _)

noncomputable def updN (a : Addr) (O' : Obj) : List (Addr × Obj) → List (Addr × Obj)
  | [] => []
  | p :: r => if p.1 = a then (a, O') :: r else p :: updN a O' r
theorem updN_upd : ∀ {news : List (Addr × Obj)}, (news.map (·.1)).Nodup → (a, O) ∈ news → Upd a O O' news (updN a O' news)
  | p :: r, nd, hm => by
    unfold updN
    rw [List.map_cons, List.nodup_cons] at nd
    by_cases e : p.1 = a
    · rw [if_pos e]
      have ep : p = (a, O) := by
        rcases List.mem_cons.mp hm with q | q
        · exact q.symm
        · exact absurd (List.mem_map_of_mem (f := (·.1)) q) (e ▸ nd.1)
      subst ep
      exact .head fun q hq e' => nd.1 (List.mem_map.mpr ⟨q, hq, e'⟩)
    · rw [if_neg e]
      refine .tail e (updN_upd nd.2 ?_)
      rcases List.mem_cons.mp hm with q | q
      · subst q; exact absurd rfl e
      · exact q
theorem updN_keys : ∀ (news : List (Addr × Obj)), (updN a O' news).map (·.1) = news.map (·.1)
  | [] => rfl
  | p :: r => by
    unfold updN
    by_cases e : p.1 = a
    · rw [if_pos e, List.map_cons, List.map_cons, e]
    · rw [if_neg e, List.map_cons, List.map_cons, updN_keys r]
theorem updN_other {p : Addr × Obj} (hn : p.1 ≠ a) : ∀ {news : List (Addr × Obj)}, p ∈ news → p ∈ updN a O' news
  | q :: r, hm => by
    unfold updN
    by_cases e : q.1 = a
    · rw [if_pos e]
      rcases List.mem_cons.mp hm with z | z
      · subst z; exact absurd e hn
      · exact .tail _ z
    · rw [if_neg e]
      rcases List.mem_cons.mp hm with z | z
      · subst z; exact .head _
      · exact .tail _ (updN_other hn z)
theorem updN_self : ∀ {news : List (Addr × Obj)}, (a, O) ∈ news → (a, O') ∈ updN a O' news
  | q :: r, hm => by
    unfold updN
    by_cases e : q.1 = a
    · rw [if_pos e]; exact .head _
    · rw [if_neg e]
      rcases List.mem_cons.mp hm with z | z
      · subst z; exact absurd rfl e
      · exact .tail _ (updN_self z)

theorem Rp.upd (R : Rp Z h₀ L h ad news H) (ea : ad[n]? = some a) (hm : (a, O) ∈ news) (N : News h₀ L h' (updN a O' news)) (A : At Z ad o' O') :
    Rp Z h₀ L h' ad (updN a O' news) (H.set n o') ∧ Gr ad news ad (updN a O' news) := by
  refine ⟨⟨N, by rw [updN_keys]; exact R.nd, R.adn, by rw [List.length_set]; exact R.len, fun k b o e1 e2 => ?_⟩, ⟨⟨[], by simp⟩, fun p hp hq => ⟨updN_other (fun e => ?_) hp, hq⟩⟩⟩
  · by_cases hk : n = k
    · subst hk
      rw [ea] at e1; cases e1
      have : n < H.length := by
        have := (List.getElem?_eq_some_iff.mp e2).1
        rwa [List.length_set] at this
      rw [List.getElem?_set_self this] at e2
      cases e2
      exact ⟨O', updN_self hm, A⟩
    · rw [List.getElem?_set_ne hk] at e2
      obtain ⟨O₁, q1, q2⟩ := R.ob k b o e1 e2
      refine ⟨O₁, updN_other (fun e => hk ?_) q1, q2⟩
      have e' : b = a := e
      subst e'
      exact nodup_ix R.adn ea e1
  · exact hq (e ▸ List.mem_iff_getElem?.mpr ⟨n, ea⟩)
/-- a hidden object (an iterator) is changed -/
theorem Rp.updHid (R : Rp Z h₀ L h ad news H) (na : a ∉ ad) (N : News h₀ L h' (updN a O' news)) : Rp Z h₀ L h' ad (updN a O' news) H := by
  refine ⟨N, by rw [updN_keys]; exact R.nd, R.adn, R.len, fun k b o e1 e2 => ?_⟩
  obtain ⟨O₁, q1, q2⟩ := R.ob k b o e1 e2
  refine ⟨O₁, updN_other (fun e => na ?_) q1, q2⟩
  have e' : b = a := e
  exact e' ▸ List.mem_iff_getElem?.mpr ⟨k, e1⟩
end

/-! locals -/
noncomputable def lget : List AV → Nat → AV
  | [], _ => .undef
  | v :: _, 0 => v
  | _ :: r, n + 1 => lget r n
noncomputable def lset : List AV → Nat → AV → List AV
  | [], _, _ => []
  | _ :: r, 0, x => x :: r
  | v :: r, n + 1, x => v :: lset r n x
theorem lset_len : ∀ (l : List AV) n x, (lset l n x).length = l.length
  | [], _, _ => rfl
  | _ :: _, 0, _ => rfl
  | _ :: r, n + 1, x => by simp [lset, lset_len r n x]
theorem lget_lset : ∀ (l : List AV) n x k, lget (lset l n x) k = if k = n ∧ n < l.length then x else lget l k
  | [], n, x, k => by simp [lset]
  | v :: r, 0, x, 0 => by simp [lset, lget]
  | v :: r, 0, x, k + 1 => by simp [lset, lget]
  | v :: r, n + 1, x, 0 => by simp [lset, lget]
  | v :: r, n + 1, x, k + 1 => by simp [lset, lget, lget_lset r n x k]

noncomputable def LocOk (vars : List Str) (ad : List Addr) (l : List AV) (m : Str → Option Value) : Prop :=
  ∀ n x, vars[n]? = some x → lget l n = .undef ∨ ∃ v, m x = some v ∧ Is ad (lget l n) v
theorem LocOk.mono {vars : List Str} {ad ad' : List Addr} {news news' : List (Addr × Obj)} {l : List AV} {m : Str → Option Value} (g : Gr ad news ad' news') (h : LocOk vars ad l m) : LocOk vars ad' l m := fun n x e =>
  (h n x e).imp id fun ⟨v, q, i⟩ => ⟨v, q, g.is i⟩
theorem LocOk.set {vars : List Str} {ad : List Addr} {l : List AV} {m : Str → Option Value} (nd : vars.Nodup) (h : LocOk vars ad l m) {n : Nat} {x : Str} {v : AV} {v' : Value} (hn : vars[n]? = some x) (i : Is ad v v') :
    LocOk vars ad (lset l n v) (fun y => if y = x then some v' else m y) := by
  intro k y hk
  rw [lget_lset]
  by_cases e : k = n
  · subst e
    rw [hn] at hk; cases hk
    by_cases q : k < l.length
    · rw [if_pos ⟨rfl, q⟩]
      exact .inr ⟨v', by simp, i⟩
    · left
      rw [if_neg fun z => q z.2]
      have : ∀ (l : List AV) k, ¬ k < l.length → lget l k = .undef := by
        intro l
        induction l with
        | nil => intro k _; rfl
        | cons a r ih => intro k hk; cases k with
          | zero => simp at hk
          | succ k => exact ih k (by simpa using hk)
      exact this _ _ q
  · rw [if_neg fun z => e z.1]
    refine (h k y hk).imp id fun ⟨w, q, i⟩ => ⟨w, ?_, i⟩
    have : y ≠ x := fun z => e (by
      subst z
      exact nodup_ix nd hk hn)
    show (if y = x then some v' else m y) = some w
    rw [if_neg this]; exact q
end Mine

namespace Mine
theorem bsome {α β : Type} {x : Option α} {f : α → Option β} {b : β} {P : Prop} (h : x.bind f = some b) (k : ∀ a, x = some a → f a = some b → P) : P := by
  cases x with
  | none => cases h
  | some a => exact k a rfl h
theorem msome {α β : Type} {x : Option α} {f : α → β} {b : β} {P : Prop} (h : x.map f = some b) (k : ∀ a, x = some a → f a = b → P) : P := by
  cases x with
  | none => cases h
  | some a => exact k a rfl (Option.some.inj h)

/-- what a global name means -/
inductive G where
  | int (i : Int) | fn (f : Nat) | tab (ns : List Int) | rng | len | lst

inductive E where
  | const (v : AV) | var (n : Nat)
  | bin (op : Operator) (a b : E) | neg (a : E) | inv (a : E) | not (a : E)
  | cmp (op : CmpOp) (a b : E) | chain (op₁ op₂ : CmpOp) (a b c : E)
  | and (a b : E) | or (a b : E) | ite (t a b : E)
  | call (f : Nat) (args : List E)
  | attr (a : E) (n : Nat) | sub (a i : E) | tab (ns : List Int) (i : E)
  | list (es : List E) | tup (es : List E) | app (a e : E)
  | len (as : List E) | copy (as : List E) | range (as : List E)

structure Cx where
  vars : List Str
  scope : Scope
  globs : Str → Option G
  attrs : List Str

noncomputable def Cx.name (c : Cx) (x : Str) : Option E :=
  if x == Str.ofString "__debug__" then none else
  match c.scope.names.lookup x with
  | some .local => (c.vars.findIdx? (· == x)).map E.var
  | some .globalImplicit => (match c.globs x with | some (.int i) => some (.const (.int i)) | _ => none)
  | _ => none
noncomputable def Cx.glob (c : Cx) (x : Str) : Option G :=
  if x == Str.ofString "__debug__" then none else
  match c.scope.names.lookup x with
  | some .globalImplicit => c.globs x
  | _ => none
noncomputable def Cx.attr (c : Cx) (x : Str) : Option Nat := c.attrs.findIdx? (· == x)
noncomputable def Cx.isTab (c : Cx) : Expr → Option (List Int)
  | .Name x _ => (match c.glob x with | some (.tab ns) => some ns | _ => none)
  | _ => none
noncomputable def isCmp : Expr → Bool
  | .Compare _ [_] [_] _ => true
  | _ => false
noncomputable def noStar : Expr → Bool
  | .Starred .. => false
  | _ => true
noncomputable def noSlice : Expr → Bool
  | .Slice .. => false
  | _ => true

noncomputable def noCall : Expr → Bool
  | .Call .. => false
  | _ => true

noncomputable def ands : List E → Option E
  | [] => none
  | [e] => some e
  | e :: r => (ands r).map (E.and e)
noncomputable def ors : List E → Option E
  | [] => none
  | [e] => some e
  | e :: r => (ors r).map (E.or e)

noncomputable def callOf (g : Option G) (as : List E) : Option E := match g with
  | some (.fn f) => some (.call f as)
  | some .rng => some (.range as)
  | some .len => some (.len as)
  | some .lst => some (.copy as)
  | _ => none

noncomputable def constE : Const → Option AV
  | .int i => some (.int i)
  | .bool b => some (.bool b)
  | .none => some .none
  | _ => none
noncomputable def unE : UnaryOp → E → Option E
  | .USub, e => some (.neg e)
  | .Invert, e => some (.inv e)
  | .Not, e => some (.not e)
  | _, _ => none
noncomputable def cmpE (ops : List CmpOp) (rs : List Expr) (a : E) (bs : List E) : Option E := match ops with
  | [op] => (match bs with | [b] => if rs.any (behindInMarks op) then none else some (.cmp op a b) | _ => none)
  | [o₁, o₂] => (match bs with | [b₁, b₂] => if lastMarks [o₁, o₂] rs then none else some (.chain o₁ o₂ a b₁ b₂) | _ => none)
  | _ => none
noncomputable def baseOk : Expr → Bool
  | .Attribute v _ _ => noCall v
  | .Name .. => true
  | .Subscript _ i _ => noSlice i
  | _ => false
noncomputable def oneApp (o : E) (es : List E) : Option E := match es with
  | [e] => some (.app o e)
  | _ => none

mutual
noncomputable def comp (c : Cx) : Expr → Option E
  | .Constant k _ _ => (constE k).map .const
  | .Name x _ => c.name x
  | .BinOp l op r _ => (match l with
      | .IfExp t a b _ => if isCmp t then (comp c t).bind fun t => (comp c a).bind fun a => (comp c b).bind fun b => (comp c r).bind fun r => some (.bin op (.ite t a b) r) else none
      | l => (comp c l).bind fun a => (comp c r).bind fun b => some (.bin op a b))
  | .UnaryOp op x _ => (comp c x).bind (unE op)
  | .Compare l ops rs _ => (comp c l).bind fun a => (comps c rs).bind (cmpE ops rs a)
  | .BoolOp op es _ => (comps c es).bind (match op with | .And => ands | .Or => ors)
  | .Call f as kws pos => if kws.isEmpty then (match f with
      | .Attribute o n apos => if n == Str.ofString "append" && apos.endLine == pos.line && as.all noStar && baseOk o then (comp c o).bind fun o => (comps c as).bind (oneApp o) else none
      | .Name x _ => if as.all noStar && !as.isEmpty then (comps c as).bind fun as => callOf (c.glob x) as else none
      | _ => none) else none
  | .Attribute v n _ => if noCall v then (comp c v).bind fun a => (c.attr n).bind fun k => some (.attr a k) else none
  | .Subscript v s _ => if noSlice s then (match c.isTab v with
      | some ns => (comp c s).bind fun i => some (.tab ns i)
      | none => (comp c v).bind fun a => (comp c s).bind fun i => some (.sub a i)) else none
  | .List es _ => if es.all noStar then (comps c es).bind fun es => some (.list es) else none
  | .Tuple es _ _ => if es.all noStar then (comps c es).bind fun es => some (.tup es) else none
  | _ => none
noncomputable def comps (c : Cx) : List Expr → Option (List E)
  | [] => some []
  | e :: r => (comp c e).bind fun a => (comps c r).bind fun b => some (a :: b)
end

theorem comps1 {c : Cx} {rs : List Expr} {b : E} (h : comps c rs = some [b]) : ∃ r, rs = [r] ∧ comp c r = some b := by
  match rs, h with
  | [], h => rw [comps] at h; cases h
  | r :: l, h =>
    rw [comps] at h
    refine bsome h ?_; clear h; intro x hx h
    refine bsome h ?_; clear h; intro y hy h
    cases h
    match l, hy with
    | [], _ => exact ⟨r, rfl, hx⟩
    | r' :: l, hy =>
      rw [comps] at hy
      refine bsome hy ?_; clear hy; intro x _ hy
      refine bsome hy ?_; clear hy; intro y _ hy
      cases hy
theorem comps2 {c : Cx} {rs : List Expr} {b b' : E} (h : comps c rs = some [b, b']) : ∃ r r', rs = [r, r'] ∧ comp c r = some b ∧ comp c r' = some b' := by
  match rs, h with
  | [], h => rw [comps] at h; cases h
  | r :: l, h =>
    rw [comps] at h
    refine bsome h ?_; clear h; intro x hx h
    refine bsome h ?_; clear h; intro y hy h
    cases h
    obtain ⟨r', rfl, h'⟩ := comps1 hy
    exact ⟨r, r', rfl, hx, h'⟩
theorem cmpE_some {ops : List CmpOp} {rs : List Expr} {a e : E} {bs : List E} (h : cmpE ops rs a bs = some e) :
    (∃ op b, ops = [op] ∧ bs = [b] ∧ rs.any (behindInMarks op) = false ∧ e = .cmp op a b) ∨ ∃ o₁ o₂ b₁ b₂, ops = [o₁, o₂] ∧ bs = [b₁, b₂] ∧ lastMarks [o₁, o₂] rs = false ∧ e = .chain o₁ o₂ a b₁ b₂ := by
  unfold cmpE at h
  split at h
  · split at h
    · split at h
      · cases h
      · rename_i q; cases h; exact .inl ⟨_, _, rfl, rfl, by simpa using q, rfl⟩
    · cases h
  · split at h
    · split at h
      · cases h
      · rename_i q; cases h; exact .inr ⟨_, _, _, _, rfl, rfl, by simpa using q, rfl⟩
    · cases h
  · cases h
theorem oneApp_some {o e : E} {es : List E} (h : oneApp o es = some e) : ∃ x, es = [x] ∧ e = .app o x := by
  unfold oneApp at h
  split at h
  · cases h; exact ⟨_, rfl, rfl⟩
  · cases h

/-! the predicate transformer of an expression -/
noncomputable def truthA : AV → Option Bool
  | .bool b => some b
  | .int i => some (i != 0)
  | .none => some false
  | _ => none
noncomputable def cmpI (op : CmpOp) (x y : Int) : Option Bool := match op with
  | .Eq => some (x == y)
  | .NotEq => some (x != y)
  | .Lt => some (decide (x < y))
  | .LtE => some (decide (x ≤ y))
  | .Gt => some (decide (y < x))
  | .GtE => some (decide (y ≤ x))
  | _ => none
noncomputable def cmpB (op : CmpOp) (x y : Bool) : Option Bool := match op with
  | .Eq => some (x == y)
  | .NotEq => some (x != y)
  | _ => none
noncomputable def cmpA (op : CmpOp) (a b : AV) : Option Bool := match a with
  | .int x => (match b with | .int y => cmpI op x y | _ => none)
  | .bool x => (match b with | .bool y => cmpB op x y | _ => none)
  | _ => none
noncomputable def binI (op : Operator) (x y : Int) (Q : Int → Prop) : Prop := match op with
  | .Add => Q (x + y)
  | .Sub => Q (x - y)
  | .Mult => (x.natAbs < 2 ^ 64 ∨ y.natAbs < 2 ^ 64) ∧ Q (x * y)
  | .FloorDiv => (y ≠ 0 ∧ y.natAbs < 1000000) ∧ Q (x.fdiv y)
  | .Mod => y ≠ 0 ∧ Q (x.fmod y)
  | .LShift => (0 ≤ y ∧ y ≤ 1000 ∧ x.natAbs < 2 ^ 64) ∧ Q (x * 2 ^ y.toNat)
  | .RShift => 0 ≤ y ∧ Q (x.fdiv (2 ^ y.toNat))
  | .BitAnd => Q (Builtin.bitAnd x y)
  | .BitOr => Q (Builtin.bitOr x y)
  | .BitXor => Q (Builtin.bitXor x y)
  | _ => False
noncomputable def repA : Nat → List AV → List AV
  | 0, _ => []
  | n + 1, vs => vs ++ repA n vs
noncomputable def wBin (op : Operator) (a b : AV) (H : Hp) (Q : AV → Hp → Prop) : Prop := match a, b with
  | .int x, .int y => binI op x y fun r => Q (.int r) H
  | .ref n, .int k => (match op, H[n]? with
      | .Mult, some (.list vs) => (0 < vs.length ∧ 0 ≤ k ∧ k ≤ 1000 ∧ vs.length ≤ 1000) ∧ Q (.ref H.length) (H ++ [.list (repA k.toNat vs)])
      | _, _ => False)
  | _, _ => False
noncomputable def getF (n : Nat) : List (Nat × AV) → Option AV
  | [] => none
  | p :: r => if p.1 = n then some p.2 else getF n r
noncomputable def putF (n : Nat) (v : AV) : List (Nat × AV) → List (Nat × AV)
  | [] => [(n, v)]
  | p :: r => if p.1 = n then (n, v) :: r else p :: putF n v r
noncomputable def wGetA (o : AV) (n : Nat) (H : Hp) (Q : AV → Prop) : Prop := match o with
  | .ref k => (match H[k]? with
      | some (.inst d) => (match H[d]? with
          | some (.dict es) => (match getF n es with
              | some v => Q v
              | none => False)
          | _ => False)
      | _ => False)
  | _ => False
noncomputable def wSetA (o : AV) (n : Nat) (v : AV) (H : Hp) (Q : Hp → Prop) : Prop := match o with
  | .ref k => (match H[k]? with
      | some (.inst d) => (match H[d]? with
          | some (.dict es) => es.length < 900 ∧ Q (H.set d (.dict (putF n v es)))
          | _ => False)
      | _ => False)
  | _ => False
noncomputable def wGetI (o i : AV) (H : Hp) (Q : AV → Prop) : Prop := match o, i with
  | .ref k, .int x => (match H[k]? with
      | some (.list vs) => (0 ≤ x ∧ x < 1000) ∧ (match vs[x.toNat]? with | some v => Q v | none => False)
      | some (.tup vs) => (0 ≤ x ∧ x < 1000) ∧ (match vs[x.toNat]? with | some v => Q v | none => False)
      | _ => False)
  | _, _ => False
noncomputable def wSetI (o i v : AV) (H : Hp) (Q : Hp → Prop) : Prop := match o, i with
  | .ref k, .int x => (match H[k]? with
      | some (.list vs) => (0 ≤ x ∧ x < 1000 ∧ x.toNat < vs.length) ∧ Q (H.set k (.list (vs.set x.toNat v)))
      | _ => False)
  | _, _ => False
noncomputable def wApp (o v : AV) (H : Hp) (Q : Hp → Prop) : Prop := match o with
  | .ref k => (match H[k]? with
      | some (.list vs) => vs.length < 1000 ∧ Q (H.set k (.list (vs ++ [v])))
      | _ => False)
  | _ => False

noncomputable abbrev Orc := Nat → List AV → Hp → (AV → Hp → Prop) → Prop

noncomputable def wVar (l : List AV) (n : Nat) (Q : AV → Prop) : Prop := match lget l n with
  | .undef => False
  | v => Q v
noncomputable def rangeA (vs : List AV) : Option (Int × Int × Int) := match vs with
  | [.int n] => some (0, n, 1)
  | [.int a, .int b] => some (a, b, 1)
  | [.int a, .int b, .int c] => some (a, b, c)
  | _ => none

mutual
noncomputable def wE (O : Orc) (l : List AV) : E → Hp → (AV → Hp → Prop) → Prop
  | .const v, H, Q => Q v H
  | .var n, H, Q => wVar l n fun v => Q v H
  | .bin op a b, H, Q => wE O l a H fun x H => wE O l b H fun y H => wBin op x y H Q
  | .neg a, H, Q => wE O l a H fun x H => match x with | .int i => Q (.int (-i)) H | _ => False
  | .inv a, H, Q => wE O l a H fun x H => match x with | .int i => Q (.int (Builtin.bitNot i)) H | _ => False
  | .not a, H, Q => wE O l a H fun x H => match truthA x with | some c => Q (.bool (!c)) H | none => False
  | .cmp op a b, H, Q => wE O l a H fun x H => wE O l b H fun y H => match cmpA op x y with | some c => Q (.bool c) H | none => False
  | .chain op₁ op₂ a b c, H, Q => wE O l a H fun x H => wE O l b H fun y H => match cmpA op₁ x y with
      | some true => wE O l c H fun z H => (match cmpA op₂ y z with | some c => Q (.bool c) H | none => False)
      | some false => Q (.bool false) H
      | none => False
  | .and a b, H, Q => wE O l a H fun x H => match truthA x with | some true => wE O l b H Q | some false => Q x H | none => False
  | .or a b, H, Q => wE O l a H fun x H => match truthA x with | some true => Q x H | some false => wE O l b H Q | none => False
  | .ite t a b, H, Q => wE O l t H fun x H => match truthA x with | some true => wE O l a H Q | some false => wE O l b H Q | none => False
  | .call f as, H, Q => wEs O l as H fun vs H => O f vs H Q
  | .attr a n, H, Q => wE O l a H fun x H => wGetA x n H fun v => Q v H
  | .sub a i, H, Q => wE O l a H fun x H => wE O l i H fun y H => wGetI x y H fun v => Q v H
  | .tab ns i, H, Q => wE O l i H fun y H => match y with
      | .int x => (0 ≤ x ∧ x < 1000) ∧ (match ns[x.toNat]? with | some v => Q (.int v) H | none => False)
      | _ => False
  | .list es, H, Q => wEs O l es H fun vs H => vs.length ≤ 1000 ∧ Q (.ref H.length) (H ++ [.list vs])
  | .tup es, H, Q => wEs O l es H fun vs H => vs.length ≤ 1000 ∧ Q (.ref H.length) (H ++ [.tup vs])
  | .app a e, H, Q => wE O l a H fun x H => match x with
      | .ref k => (match H[k]? with | some (.list _) => wE O l e H fun y H => wApp x y H fun H => Q .none H | _ => False)
      | _ => False
  | .len as, H, Q => wEs O l as H fun vs H => match vs with
      | [.ref k] => (match H[k]? with | some (.list vs) => vs.length ≤ 1000 ∧ Q (.int vs.length) H | _ => False)
      | _ => False
  | .copy as, H, Q => wEs O l as H fun vs H => match vs with
      | [.ref k] => (match H[k]? with | some (.list vs) => vs.length ≤ 1000 ∧ Q (.ref H.length) (H ++ [.list vs]) | _ => False)
      | _ => False
  | .range as, H, Q => wEs O l as H fun vs H => match rangeA vs with
      | some (a, b, c) => (c.natAbs < 1000 ∧ c ≠ 0) ∧ Q (.ref H.length) (H ++ [.range a b c])
      | none => False
noncomputable def wEs (O : Orc) (l : List AV) : List E → Hp → (List AV → Hp → Prop) → Prop
  | [], H, Q => Q [] H
  | e :: r, H, Q => wE O l e H fun v H => wEs O l r H fun vs H => Q (v :: vs) H
end
/-- an expression as a test -/
noncomputable def wT (O : Orc) (l : List AV) : E → Hp → (Bool → Hp → Prop) → Prop
  | .not a, H, Q => wT O l a H fun c H => Q (!c) H
  | .and a b, H, Q => wT O l a H fun c H => match c with | true => wT O l b H Q | false => Q false H
  | .or a b, H, Q => wT O l a H fun c H => match c with | true => Q true H | false => wT O l b H Q
  | e, H, Q => wE O l e H fun x H => match truthA x with | some c => Q c H | none => False
end Mine

namespace Mine

/-! what the library says of the objects of the ledger -/
section
variable {Z : Wd} {h₀ h : Heap} {L : Addr} {ad : List Addr} {news : List (Addr × Obj)} {H : Hp}

theorem isStr_ofKey {x : Str} {t : Tok} {y : Str} : (Value.str x t).isStr y = (x == y) := rfl
theorem find_key {x : Str} {n : Nat} (nd : Z.attrs.Nodup) (hx : Z.attrs[n]? = some x) : ∀ {es : List (Nat × AV)} {l : List DictEntry} {v : AV},
    All2 (fun (p : Nat × AV) (e : DictEntry) => (∃ x t, Z.attrs[p.1]? = some x ∧ e.key = .str x t) ∧ Is ad p.2 e.val) es l → getF n es = some v → ∃ e, l.find? (·.key.isStr x) = some e ∧ Is ad v e.val
  | _, _, _, .nil, h => by cases h
  | _, _, v, .cons (a := p) (b := e) (l := es) (r := l) ⟨⟨y, t, hy, hk⟩, i⟩ r, h => by
    unfold getF at h
    by_cases q : p.1 = n
    · rw [if_pos q] at h
      cases h
      rw [q, hx] at hy; cases hy
      refine ⟨e, ?_, i⟩
      rw [List.find?_cons_of_pos]
      rw [hk, isStr_ofKey]; exact beq_self_eq_true _
    · rw [if_neg q] at h
      obtain ⟨e', a, b⟩ := find_key nd hx r h
      refine ⟨e', ?_, b⟩
      rw [List.find?_cons_of_neg, a]
      rw [hk, isStr_ofKey]
      intro z
      have : y = x := eq_of_beq z
      subst this
      exact q (nodup_ix nd hy hx)
theorem getL_of {x : Str} {n : Nat} (hx : Z.attrs[n]? = some x) {es : List (Nat × AV)} {l : List DictEntry} {v : AV}
    (r : All2 (fun (p : Nat × AV) (e : DictEntry) => (∃ x t, Z.attrs[p.1]? = some x ∧ e.key = .str x t) ∧ Is ad p.2 e.val) es l) (h : getF n es = some v) : ∃ v', getL x l = some (some v') ∧ Is ad v v' := by
  obtain ⟨e, a, b⟩ := find_key Z.hNd hx r h
  exact ⟨e.val, by unfold getL; rw [a], b⟩
theorem no_refKey {es : List (Nat × AV)} {l : List DictEntry}
    (r : All2 (fun (p : Nat × AV) (e : DictEntry) => (∃ x t, Z.attrs[p.1]? = some x ∧ e.key = .str x t) ∧ Is ad p.2 e.val) es l) : l.any (·.refKey) = false := by
  induction r with
  | nil => rfl
  | cons a b ih =>
    obtain ⟨⟨y, t, _, hk⟩, _⟩ := a
    rw [List.any_cons, ih, Bool.or_false]
    unfold DictEntry.refKey
    rw [hk]
theorem getL_some {x : Str} {es : List (Nat × AV)} {l : List DictEntry}
    (r : All2 (fun (p : Nat × AV) (e : DictEntry) => (∃ x t, Z.attrs[p.1]? = some x ∧ e.key = .str x t) ∧ Is ad p.2 e.val) es l) : (getL x l).isSome = true := by
  unfold getL
  split
  · rfl
  · rw [no_refKey r]; rfl
theorem putL_of {x : Str} {n : Nat} {hs : Int} {t : Tok} {v : AV} {v' : Value} (hx : Z.attrs[n]? = some x) (i : Is ad v v') : ∀ {es : List (Nat × AV)} {l : List DictEntry},
    All2 (fun (p : Nat × AV) (e : DictEntry) => (∃ x t, Z.attrs[p.1]? = some x ∧ e.key = .str x t) ∧ Is ad p.2 e.val) es l →
    All2 (fun (p : Nat × AV) (e : DictEntry) => (∃ x t, Z.attrs[p.1]? = some x ∧ e.key = .str x t) ∧ Is ad p.2 e.val) (putF n v es) (putL x hs (.str x t) v' l)
  | _, _, .nil => .cons ⟨⟨x, t, hx, rfl⟩, i⟩ .nil
  | _, _, .cons (a := p) (b := e) ⟨⟨y, t', hy, hk⟩, j⟩ r => by
    unfold putF putL
    by_cases q : p.1 = n
    · rw [if_pos q]
      rw [q, hx] at hy; cases hy
      rw [if_pos (by rw [hk, isStr_ofKey]; exact beq_self_eq_true _)]
      exact .cons ⟨⟨x, t', hx, hk⟩, i⟩ r
    · rw [if_neg q, if_neg (by
        rw [hk, isStr_ofKey]
        intro z
        have : y = x := eq_of_beq z
        subst this
        exact q (nodup_ix Z.hNd hy hx))]
      exact .cons ⟨⟨y, t', hy, hk⟩, j⟩ (putL_of hx i r)
theorem putF_len (n : Nat) (v : AV) : ∀ es : List (Nat × AV), (putF n v es).length ≤ es.length + 1
  | [] => by simp [putF]
  | p :: r => by
    unfold putF
    by_cases q : p.1 = n
    · rw [if_pos q]; simp
    · rw [if_neg q]; simp; exact putF_len n v r

theorem Is.handed {v : AV} {v' : Value} (h : Is ad v v') : handedIn v' = true := by
  cases v with
  | none => cases (h : v' = _); rfl
  | bool b => cases (h : v' = _); rfl
  | int i => obtain ⟨t, rfl⟩ := h; rfl
  | ref n => obtain ⟨a, _, rfl⟩ := h; rfl
  | undef => exact absurd h id

theorem Rp.inst (R : Rp Z h₀ L h ad news H) {k d : Nat} {es : List (Nat × AV)} {a : Addr} (ea : ad[k]? = some a) (e1 : H[k]? = some (.inst d)) (e2 : H[d]? = some (.dict es)) :
    ∃ C dx l n, C ∈ Z.clss ∧ ad[d]? = some dx ∧ (dx, dictOf l n) ∈ news ∧ W.InstAt h a (instObj C dx) C (some (dictOf l n)) ∧ All2 (fun (p : Nat × AV) (e : DictEntry) => (∃ x t, Z.attrs[p.1]? = some x ∧ e.key = .str x t) ∧ Is ad p.2 e.val) es l := by
  obtain ⟨O, m1, C, dx, hC, hd, rfl⟩ := R.hasAt ea e1
  obtain ⟨O2, m2, l, n, rfl, r⟩ := R.hasAt hd e2
  exact ⟨C, dx, l, n, hC, hd, m2, W.InstAt.of_news R.nw m1 m2, r⟩
theorem Rp.lst (R : Rp Z h₀ L h ad news H) {k : Nat} {vs : List AV} {a : Addr} (ea : ad[k]? = some a) (e1 : H[k]? = some (.list vs)) :
    ∃ items n, (a, W.listOf (List.toArray items) n) ∈ news ∧ h.IsList a (List.toArray items) ∧ All2 (Is ad) vs items := by
  obtain ⟨O, m1, items, n, rfl, r⟩ := R.hasAt ea e1
  exact ⟨items, n, m1, ⟨_, (R.nw _ m1).1, rfl, n, rfl⟩, r⟩
theorem Rp.tup (R : Rp Z h₀ L h ad news H) {k : Nat} {vs : List AV} {a : Addr} (ea : ad[k]? = some a) (e1 : H[k]? = some (.tup vs)) :
    ∃ items n, (a, ({ cls := .type "tuple", data := .seq (List.toArray items) n } : Obj)) ∈ news ∧ IsTup h a (List.toArray items) ∧ All2 (Is ad) vs items := by
  obtain ⟨O, m1, items, n, rfl, r⟩ := R.hasAt ea e1
  exact ⟨items, n, m1, ⟨_, (R.nw _ m1).1, rfl, n, rfl⟩, r⟩
end

/-- what a step hands on: the value, the heap, grown -/
noncomputable abbrev Kont (Z : Wd) (h₀ : Heap) (L : Addr) (m : Str → Option Value) (s : Shared) (ad : List Addr) (news : List (Addr × Obj)) (Q : AV → Hp → Prop) (Qc : Value → Shared → Prop) : Prop :=
  ∀ v H' v' h' tk ad' news', Q v H' → Fr h₀ L h' m → Rp Z h₀ L h' ad' news' H' → Gr ad news ad' news' → Is ad' v v' → Qc v' { s with heap := h', toks := tk }
noncomputable abbrev KontU (Z : Wd) (h₀ : Heap) (L : Addr) (m : Str → Option Value) (s : Shared) (ad : List Addr) (news : List (Addr × Obj)) (Q : Hp → Prop) (Qc : Unit → Shared → Prop) : Prop :=
  ∀ H' h' tk ad' news', Q H' → Fr h₀ L h' m → Rp Z h₀ L h' ad' news' H' → Gr ad news ad' news' → Qc () { s with heap := h', toks := tk }

section
variable {Z : Wd} {h₀ : Heap} {L : Addr} {m : Str → Option Value} {s : Shared} {ad : List Addr} {news : List (Addr × Obj)} {H : Hp} {A : Around} {Qc : Value → Shared → Prop} {Ec : Value → Shared → Prop} {Q : AV → Hp → Prop}

/-- the plain end: nothing made -/
theorem Kont.now (k : Kont Z h₀ L m s ad news Q Qc) {v : AV} {v' : Value} {tk : Nat} (q : Q v H) (F : Fr h₀ L s.heap m) (R : Rp Z h₀ L s.heap ad news H) (i : Is ad v v') : Qc v' { s with toks := tk } :=
  k v H v' s.heap tk ad news q F R .refl i

theorem bin_int {op : Operator} {x y : Int} {t u : Tok} (w : binI op x y fun r => Q (.int r) H) (F : Fr h₀ L s.heap m) (R : Rp Z h₀ L s.heap ad news H) (k : Kont Z h₀ L m s ad news Q Qc) :
    wpAny (model Z.prog Z.w) A (binaryOp op (.int x t) (.int y u)) Qc Ec s ∧ wpAny (model Z.prog Z.w) A (inplaceOp op (.int x t) (.int y u)) Qc Ec s := by
  have fin : ∀ r : Int, Q (.int r) H → Qc (.int r s.toks) { s with toks := s.toks + 1 } := fun r q => Kont.now k q F R ⟨_, rfl⟩
  cases op <;> simp only [binI] at w <;> try exact w.elim
  · exact ⟨add_int (fin _ w), iadd_int (fin _ w)⟩
  · exact ⟨sub_int' (fin _ w), isub_int (fin _ w)⟩
  · have ok : IntMulOk x y := by
      have b : ∀ {z : Int}, z.natAbs < 2 ^ 64 → Builtin.Int.intBits z ≤ 64 := fun hz => intBits_le_64 (by omega) (by omega)
      unfold IntMulOk
      rcases w.1 with q | q
      · have := b q
        simp [shortFactorBits, Nat.not_lt.mpr this]
      · have := b q
        simp [shortFactorBits, Nat.not_lt.mpr this]
    exact ⟨mul_int (fin _ w.2) ok, imul_int (fin _ w.2) ok⟩
  · exact ⟨mod_int' w.1 (fin _ w.2), imod_int w.1 (fin _ w.2)⟩
  · exact ⟨lshift_int w.1.1 (bits_add_le w.1.2.2 (by omega)) (fin _ w.2), ilshift_int w.1.1 (bits_add_le w.1.2.2 (by omega)) (fin _ w.2)⟩
  · exact ⟨rshift_int w.1 (fin _ w.2), irshift_int w.1 (fin _ w.2)⟩
  · exact ⟨or_int (fin _ w), ior_int (fin _ w)⟩
  · exact ⟨xor_int (fin _ w), ixor_int (fin _ w)⟩
  · exact ⟨and_int (fin _ w), iand_int (fin _ w)⟩
  · exact ⟨floordiv_int w.1.1 (fin _ w.2) (.inl (PyProof.noPylong_small (by omega))), ifloordiv_int w.1.1 (fin _ w.2) (.inl (PyProof.noPylong_small (by omega)))⟩

theorem foldl_rep {items : Array Value} : ∀ (n : Nat) (acc : Array Value), (List.foldl (fun x1 x2 => x1 ++ x2) acc (List.replicate n items)).toList = acc.toList ++ (List.replicate n items.toList).flatten
  | 0, acc => by simp
  | n + 1, acc => by
    rw [List.replicate_succ, List.foldl_cons, foldl_rep n]
    simp [List.replicate_succ]
theorem rep_all {vs : List AV} {items : List Value} (r : All2 (Is ad) vs items) : ∀ n, All2 (Is ad) (repA n vs) (List.replicate n items).flatten
  | 0 => by simp [repA]; exact .nil
  | n + 1 => by rw [List.replicate_succ, List.flatten_cons]; exact r.append (rep_all r n)

theorem bin_ok {op : Operator} {a b : AV} {x y : Value} (w : wBin op a b H Q) (F : Fr h₀ L s.heap m) (R : Rp Z h₀ L s.heap ad news H) (i : Is ad a x) (j : Is ad b y) (k : Kont Z h₀ L m s ad news Q Qc) :
    wpAny (model Z.prog Z.w) A (binaryOp op x y) Qc Ec s := by
  unfold wBin at w
  split at w
  · obtain ⟨t, rfl⟩ := i
    obtain ⟨u, rfl⟩ := j
    exact (bin_int w F R k).1
  · rename_i n kk
    split at w
    · rename_i vs e
      obtain ⟨a, ea, rfl⟩ := i
      obtain ⟨u, rfl⟩ := j
      obtain ⟨items, nn, hm, hl, r⟩ := R.lst ea e
      have hlen := r.length
      obtain ⟨⟨w0, w1, w2, w3⟩, wq⟩ := w
      have hk : kk.toNat ≤ 1000 := by omega
      refine mul_list F R.nw (R.nw _ hm).1 (by omega) (by omega) ?_ fun h' F' N' => ?_
      · simp only [List.size_toArray]
        calc items.length * kk.toNat ≤ 1000 * 1000 := Nat.mul_le_mul (by omega) hk
          _ ≤ 2 ^ 24 := by decide
      · have lt : ∀ p ∈ news, p.1 < s.heap.objs.size := fun p hp => Heap.lt_size (R.nw p hp).1
        have ne : items.toArray.isEmpty = false := by
          cases items with
          | nil => rw [List.length_nil] at hlen; omega
          | cons a l => rfl
        obtain ⟨R', g, el⟩ := R.push (o := .list (repA kk.toNat vs)) N' lt ⟨(List.replicate kk.toNat items).flatten, 0, by
          have q := foldl_rep (items := items.toArray) kk.toNat #[]
          simp only [List.nil_append] at q
          rw [ne]
          simp only [Bool.false_eq_true, if_false]
          rw [← q], (rep_all r _).mono fun _ _ z => z.mono⟩
        exact k _ _ _ h' s.toks _ _ wq F' R' g ⟨_, el, rfl⟩
    · exact w.elim
  · exact w.elim

theorem inplace_ok {op : Operator} {a b : AV} {x y : Value} (w : match a, b with | .int x, .int y => binI op x y fun r => Q (.int r) H | _, _ => False) (F : Fr h₀ L s.heap m) (R : Rp Z h₀ L s.heap ad news H) (i : Is ad a x) (j : Is ad b y) (k : Kont Z h₀ L m s ad news Q Qc) :
    wpAny (model Z.prog Z.w) A (inplaceOp op x y) Qc Ec s := by
  split at w
  · obtain ⟨t, rfl⟩ := i
    obtain ⟨u, rfl⟩ := j
    exact (bin_int w F R k).2
  · exact w.elim

theorem cmp_ok {op : CmpOp} {a b : AV} {x y : Value} {c : Bool} {Qc : Value → Shared → Prop} (e : cmpA op a b = some c) (i : Is ad a x) (j : Is ad b y) (k : Qc (.bool c) s) : wpAny (model Z.prog Z.w) A (compareOp op x y) Qc Ec s := by
  unfold cmpA at e
  split at e
  · split at e
    · obtain ⟨t, rfl⟩ := i
      obtain ⟨u, rfl⟩ := j
      unfold cmpI at e
      split at e
      · cases e; exact eq_int k
      · cases e; exact ne_int k
      · cases e; exact lt_int k
      · cases e; exact le_int k
      · cases e; exact gt_int k
      · cases e; exact ge_int k
      · cases e
    · cases e
  · split at e
    · cases (i : x = _); cases (j : y = _)
      unfold cmpB at e
      split at e
      · cases e; exact eq_bool k
      · cases e; exact ne_bool k
      · cases e
    · cases e
  · cases e
theorem truth_ok {a : AV} {x : Value} {c : Bool} {Qb : Bool → Shared → Prop} (e : truthA a = some c) (i : Is ad a x) (k : Qb c s) : wpAny (model Z.prog Z.w) A (truthy x) Qb Ec s := by
  cases a <;> simp only [truthA] at e <;> cases e
  · cases (i : x = _); exact truthy_none k
  · cases (i : x = _); exact wpAny_truthy_bool k
  · obtain ⟨t, rfl⟩ := i; exact truthy_int k

theorem getA_ok {o : AV} {x : Value} {n : Nat} {name : Str} (X : Z.K.In h₀) (hn : Z.attrs[n]? = some name) (w : wGetA o n H fun v => Q v H) (F : Fr h₀ L s.heap m) (R : Rp Z h₀ L s.heap ad news H) (i : Is ad o x) (k : Kont Z h₀ L m s ad news Q Qc) :
    wpAny (model Z.prog Z.w) A (getAttr x name true) Qc Ec s := by
  unfold wGetA at w
  split at w
  · rename_i kk
    split at w
    · rename_i d e1
      split at w
      · rename_i es e2
        split at w
        · rename_i v ev
          obtain ⟨a, ea, rfl⟩ := i
          obtain ⟨C, dx, l, nn, hC, hd, hm, I, r⟩ := R.inst ea e1 e2
          obtain ⟨v', hl, iv⟩ := getL_of hn r ev
          obtain ⟨hg, ⟨att, ha, hno⟩, _⟩ := Z.hAttr C hC name (List.mem_iff_getElem?.mpr ⟨n, hn⟩)
          exact get_own F X I hg (Z.hCls C hC).1 ha hno hl iv.handed (Kont.now k w F R iv)
        · exact w.elim
      · exact w.elim
    · exact w.elim
  · exact w.elim

theorem setA_ok {o v : AV} {x v' : Value} {n : Nat} {name : Str} {Qu : Hp → Prop} {Qc : Unit → Shared → Prop} (X : Z.K.In h₀) (hn : Z.attrs[n]? = some name) (w : wSetA o n v H Qu) (F : Fr h₀ L s.heap m) (R : Rp Z h₀ L s.heap ad news H) (i : Is ad o x) (j : Is ad v v') (k : KontU Z h₀ L m s ad news Qu Qc) :
    wpAny (model Z.prog Z.w) A (setAttr x name v') Qc Ec s := by
  unfold wSetA at w
  split at w
  · rename_i kk
    split at w
    · rename_i d e1
      split at w
      · rename_i es e2
        obtain ⟨wl, wq⟩ := w
        obtain ⟨a, ea, rfl⟩ := i
        obtain ⟨C, dx, l, nn, hC, hd, hm, I, r⟩ := R.inst ea e1 e2
        obtain ⟨hh, hs, hp⟩ := Z.hCls C hC
        obtain ⟨_, _, ht⟩ := Z.hAttr C hC name (List.mem_iff_getElem?.mpr ⟨n, hn⟩)
        have r' := putL_of (hs := PyData.keyHash Z.w.params name) (t := s.toks + 1) hn j r
        refine set_dict F X R.nw I rfl hs hp ht hh (getL_some r) rfl (updN_upd R.nd hm) ?_ fun h' F' N' => ?_
        · have := r'.length
          have := putF_len n v es
          omega
        · obtain ⟨R', g⟩ := R.upd hd hm N' (o' := .dict (putF n v es)) ⟨_, _, rfl, r'⟩
          exact k _ h' (s.toks + 2) _ _ wq F' R' g
      · exact w.elim
    · exact w.elim
  · exact w.elim

theorem getI_core {o i : AV} {x y : Value} (w : wGetI o i H fun v => Q v H) (F : Fr h₀ L s.heap m) (R : Rp Z h₀ L s.heap ad news H) (io : Is ad o x) (ii : Is ad i y) (k : Kont Z h₀ L m s ad news Q Qc) :
    wpAny (model Z.prog Z.w) A (getItem x y) Qc Ec s ∧ ∃ T id, s.TypeIs x T ∧ typeLookup (.type T) (Str.ofString "__getitem__") = pure (some (.builtin id)) := by
  unfold wGetI at w
  split at w
  · rename_i kk xx
    obtain ⟨a, ea, rfl⟩ := io
    obtain ⟨t, rfl⟩ := ii
    split at w
    · rename_i vs e
      obtain ⟨⟨w1, w2⟩, wq⟩ := w
      obtain ⟨items, nn, hm, hl, r⟩ := R.lst ea e
      split at wq
      · rename_i v ev
        obtain ⟨v', hv, iv⟩ := r.get ev
        exact ⟨wpAny_getItem_list hl w1 (by omega) (by simpa using hv) (Kont.now k (tk := s.toks) wq F R iv), _, _, hl.typeIs, slot_list_getitem.lookup⟩
      · exact wq.elim
    · rename_i vs e
      obtain ⟨⟨w1, w2⟩, wq⟩ := w
      obtain ⟨items, nn, hm, hl, r⟩ := R.tup ea e
      split at wq
      · rename_i v ev
        obtain ⟨v', hv, iv⟩ := r.get ev
        have hlt := (List.getElem?_eq_some_iff.mp hv).1
        refine ⟨getItem_tuple hl (by omega) (by omega) (j := xx.toNat) ?_ (by simpa using hv) (Kont.now k (tk := s.toks) wq F R iv), _, _, hl.typeIs, PySem.F.slot_tuple_getitem.lookup⟩
        exact seqIndex_of w1 (by simp; omega)
      · exact wq.elim
    · exact w.elim
  · exact w.elim

theorem setI_ok {o i v : AV} {x y v' : Value} {Qu : Hp → Prop} {Qc : Unit → Shared → Prop} (w : wSetI o i v H Qu) (F : Fr h₀ L s.heap m) (R : Rp Z h₀ L s.heap ad news H) (io : Is ad o x) (ii : Is ad i y) (iv : Is ad v v') (k : KontU Z h₀ L m s ad news Qu Qc) :
    wpAny (model Z.prog Z.w) A (setItem x y v') Qc Ec s := by
  unfold wSetI at w
  split at w
  · rename_i kk xx
    obtain ⟨a, ea, rfl⟩ := io
    obtain ⟨t, rfl⟩ := ii
    split at w
    · rename_i vs e
      obtain ⟨⟨w1, w2, w3⟩, wq⟩ := w
      obtain ⟨items, nn, hm, hl, r⟩ := R.lst ea e
      have hlen := r.length
      refine ki_setAt (R.nw _ hm).1 w1 (by omega) (by simp; omega) ?_
      have hn := R.nw _ hm
      have U := updN_upd (O' := W.listOf (List.toArray (items.set xx.toNat v')) nn) R.nd hm
      have N' : News h₀ L (s.heap.update a (Obj.mapSeq fun x => x.setIfInBounds xx.toNat v')) (updN a (W.listOf (List.toArray (items.set xx.toNat v')) nn) news) := by
        obtain ⟨pre, post, e1, e2, h1, h2⟩ := U.split
        rw [e2]
        refine ki_turn _ (e1 ▸ R.nw) h1 h2 (by simp) (by simp)
      obtain ⟨R', g⟩ := R.upd ea hm N' (o' := .list (vs.set xx.toNat v)) ⟨_, nn, rfl, r.set iv⟩
      exact k _ _ s.toks _ _ wq (F.change (Heap.SameBut.update ..) hn.2.1 hn.2.2) R' g
    · exact w.elim
  · exact w.elim
end
end Mine

namespace Mine

/-- what a def's call does, as a predicate transformer; r: how deep it calls -/
noncomputable def CallOk (Z : Wd) (r : Nat) (fv : Value) (W : List AV → Hp → (AV → Hp → Prop) → Prop) : Prop :=
  ∀ args H Q, W args H Q → ∀ (A : Around) (env : Env) (outer : List Env) (A₀ : Around) (base h₀ : Heap) (L : Addr) (m : Str → Option Value) (s : Shared) (ad : List Addr) (news : List (Addr × Obj)) (vs : List Value) (Qc Ec : Value → Shared → Prop),
    env.frame = some L → env.scope.kind = .function → A.frames = some (env :: outer) → Below A₀ base outer h₀ → Z.K.In h₀ → Top Z.p Z.loose Z.mean Z.mg Z.mb h₀ → A.handled = none → A.depth + 8 * (r + 1) < recursionLimit →
    Fr h₀ L s.heap m → Rp Z h₀ L s.heap ad news H → All2 (Is ad) args vs → Kont Z h₀ L m s ad news Q Qc → wpAny (model Z.prog Z.w) A (call fv vs) Qc Ec s

/-- the facts of the globals' table -/
structure GlobsOk (Z : Wd) (globs : Str → Option G) : Prop where
  int : ∀ x i, globs x = some (.int i) → ∃ t, nsIn Z.K mainGlobals x = some (some (.int i t))
  fn : ∀ x f, globs x = some (.fn f) → ∃ v, Z.ftab[f]? = some v ∧ nsIn Z.K mainGlobals x = some (some v)
  tab : ∀ x ns, globs x = some (.tab ns) → ∃ a l n dd sl, nsIn Z.K mainGlobals x = some (some (.ref a)) ∧ Z.K.lookup a = some ⟨.type "tuple", dd, .seq (List.toArray l) n, sl⟩ ∧ All2 (fun (i : Int) (v : Value) => ∃ t, v = .int i t) ns l
  rng : ∀ x, globs x = some .rng → nsIn Z.K mainGlobals x = some none ∧ bootBuiltins x = some (.type "range") ∧ x ≠ Str.ofString "__name__"
  len : ∀ x, globs x = some .len → nsIn Z.K mainGlobals x = some none ∧ bootBuiltins x = some (.builtin "len") ∧ x ≠ Str.ofString "__name__"
  lst : ∀ x, globs x = some .lst → nsIn Z.K mainGlobals x = some none ∧ bootBuiltins x = some (.type "list") ∧ x ≠ Str.ofString "__name__"

/-- a frame at work -/
structure Fm (Z : Wd) (O : Orc) (c : Cx) (r : Nat) (h₀ : Heap) (L : Addr) (A : Around) (env : Env) : Prop where
  en : ∃ qual fa cdv, env = envOf qual c.scope L fa cdv
  kd : c.scope.kind = .function
  nd : c.vars.Nodup
  gl : GlobsOk Z c.globs
  at' : c.attrs = Z.attrs
  fr : ∃ outer A₀ base, A.frames = some (env :: outer) ∧ Below A₀ base outer h₀
  X : Z.K.In h₀
  T : Top Z.p Z.loose Z.mean Z.mg Z.mb h₀
  hh : A.handled = none
  dp : A.depth + 8 * (r + 1) < recursionLimit
  orc : ∀ f v, Z.ftab[f]? = some v → CallOk Z r v (O f)

noncomputable def EvOk (Z : Wd) (vars : List Str) (h₀ : Heap) (L : Addr) (A : Around) (l : List AV) (ev : Sem Value) (W : Hp → (AV → Hp → Prop) → Prop) : Prop :=
  ∀ H Q, W H Q → ∀ m s ad news (Qc Ec : Value → Shared → Prop), Fr h₀ L s.heap m → Rp Z h₀ L s.heap ad news H → LocOk vars ad l m → Kont Z h₀ L m s ad news Q Qc → wpAny (model Z.prog Z.w) A ev Qc Ec s
noncomputable def EvB (Z : Wd) (vars : List Str) (h₀ : Heap) (L : Addr) (A : Around) (l : List AV) (ev : Sem Bool) (W : Hp → (Bool → Hp → Prop) → Prop) : Prop :=
  ∀ H Q, W H Q → ∀ m s ad news (Qc : Bool → Shared → Prop) Ec, Fr h₀ L s.heap m → Rp Z h₀ L s.heap ad news H → LocOk vars ad l m →
    (∀ v H' h' tk ad' news', Q v H' → Fr h₀ L h' m → Rp Z h₀ L h' ad' news' H' → Gr ad news ad' news' → Qc v { s with heap := h', toks := tk }) → wpAny (model Z.prog Z.w) A ev Qc Ec s
noncomputable def EvL (Z : Wd) (vars : List Str) (h₀ : Heap) (L : Addr) (A : Around) (l : List AV) (ev : Sem (List Value)) (W : Hp → (List AV → Hp → Prop) → Prop) : Prop :=
  ∀ H Q, W H Q → ∀ m s ad news (Qc : List Value → Shared → Prop) Ec, Fr h₀ L s.heap m → Rp Z h₀ L s.heap ad news H → LocOk vars ad l m →
    (∀ v H' v' h' tk ad' news', Q v H' → Fr h₀ L h' m → Rp Z h₀ L h' ad' news' H' → Gr ad news ad' news' → All2 (Is ad') v v' → Qc v' { s with heap := h', toks := tk }) → wpAny (model Z.prog Z.w) A ev Qc Ec s

section
variable {Z : Wd} {vars : List Str} {h₀ : Heap} {L : Addr} {A : Around} {l : List AV} {O : Orc} {c : Cx} {r : Nat} {env : Env}

theorem EvOk.use {ev : Sem Value} {W : Hp → (AV → Hp → Prop) → Prop} (h : EvOk Z vars h₀ L A l ev W) {H : Hp} {Q : AV → Hp → Prop} {m s ad news} {Qc Ec : Value → Shared → Prop} (w : W H Q) (F : Fr h₀ L s.heap m) (R : Rp Z h₀ L s.heap ad news H) (Lo : LocOk vars ad l m)
    (k : ∀ v H' v' h' tk ad' news', Q v H' → Fr h₀ L h' m → Rp Z h₀ L h' ad' news' H' → LocOk vars ad' l m → Gr ad news ad' news' → Is ad' v v' → Qc v' { s with heap := h', toks := tk }) : wpAny (model Z.prog Z.w) A ev Qc Ec s :=
  h H Q w m s ad news Qc Ec F R Lo fun v H' v' h' tk ad' news' q F' R' g i => k v H' v' h' tk ad' news' q F' R' (Lo.mono g) g i
theorem EvB.use {ev : Sem Bool} {W : Hp → (Bool → Hp → Prop) → Prop} (h : EvB Z vars h₀ L A l ev W) {H : Hp} {Q : Bool → Hp → Prop} {m s ad news} {Qc : Bool → Shared → Prop} {Ec : Value → Shared → Prop} (w : W H Q) (F : Fr h₀ L s.heap m) (R : Rp Z h₀ L s.heap ad news H) (Lo : LocOk vars ad l m)
    (k : ∀ v H' h' tk ad' news', Q v H' → Fr h₀ L h' m → Rp Z h₀ L h' ad' news' H' → LocOk vars ad' l m → Gr ad news ad' news' → Qc v { s with heap := h', toks := tk }) : wpAny (model Z.prog Z.w) A ev Qc Ec s :=
  h H Q w m s ad news Qc Ec F R Lo fun v H' h' tk ad' news' q F' R' g => k v H' h' tk ad' news' q F' R' (Lo.mono g) g
theorem EvL.use {ev : Sem (List Value)} {W : Hp → (List AV → Hp → Prop) → Prop} (h : EvL Z vars h₀ L A l ev W) {H : Hp} {Q : List AV → Hp → Prop} {m s ad news} {Qc : List Value → Shared → Prop} {Ec : Value → Shared → Prop} (w : W H Q) (F : Fr h₀ L s.heap m) (R : Rp Z h₀ L s.heap ad news H) (Lo : LocOk vars ad l m)
    (k : ∀ v H' v' h' tk ad' news', Q v H' → Fr h₀ L h' m → Rp Z h₀ L h' ad' news' H' → LocOk vars ad' l m → Gr ad news ad' news' → All2 (Is ad') v v' → Qc v' { s with heap := h', toks := tk }) : wpAny (model Z.prog Z.w) A ev Qc Ec s :=
  h H Q w m s ad news Qc Ec F R Lo fun v H' v' h' tk ad' news' q F' R' g i => k v H' v' h' tk ad' news' q F' R' (Lo.mono g) g i

theorem ev_int {i : Int} {k pos} : EvOk Z vars h₀ L A l (eval (.Constant (.int i) k pos) env) (fun H Q => Q (.int i) H) := fun H Q w m s ad news Qc Ec F R Lo k =>
  wpAny_Constant_int (Kont.now k w F R ⟨_, rfl⟩)
theorem ev_bool {b : Bool} {k pos} : EvOk Z vars h₀ L A l (eval (.Constant (.bool b) k pos) env) (fun H Q => Q (.bool b) H) := fun H Q w m s ad news Qc Ec F R Lo k =>
  Constant_bool (Kont.now k (tk := s.toks) w F R rfl)
theorem ev_none {k pos} : EvOk Z vars h₀ L A l (eval (.Constant .none k pos) env) (fun H Q => Q .none H) := fun H Q w m s ad news Qc Ec F R Lo k =>
  Constant_none (Kont.now k (tk := s.toks) w F R rfl)

theorem findIdx_name {x : Str} : ∀ {vs : List Str} {n : Nat}, vs.findIdx? (· == x) = some n → vs[n]? = some x := by
  intro vs n h
  obtain ⟨hl, h1, _⟩ := List.findIdx?_eq_some_iff_getElem.mp h
  rw [List.getElem?_eq_getElem hl, eq_of_beq h1]

theorem lget_some {n : Nat} {v : AV} {m : Str → Option Value} {ad : List Addr} {x : Str} (Lo : LocOk vars ad l m) (hx : vars[n]? = some x) (hv : lget l n = v) (hu : v ≠ .undef) : ∃ v', m x = some v' ∧ Is ad v v' := by
  rcases Lo n x hx with q | q
  · rw [hv] at q; exact absurd q hu
  · rw [hv] at q; exact q

theorem wVar_elim {n : Nat} {Q : AV → Prop} (w : wVar l n Q) : lget l n ≠ .undef ∧ Q (lget l n) := by
  unfold wVar at w
  split at w
  · exact w.elim
  · rename_i h; exact ⟨h, w⟩

theorem ev_name (B : Fm Z O c r h₀ L A env) {x : Str} {pos : Pos} {e : E} (he : c.name x = some e) : EvOk Z c.vars h₀ L A l (eval (.Name x pos) env) (wE O l e) := by
  intro H Q w m s ad news Qc Ec F R Lo k
  obtain ⟨qual, fa, cdv, rfl⟩ := B.en
  unfold Cx.name at he
  split at he
  · cases he
  rename_i hd
  have hd' : (x == Str.ofString "__debug__") = false := by simpa using hd
  split at he
  · rename_i hk
    refine msome he ?_; clear he; rintro n hn rfl
    have hx := findIdx_name hn
    rw [wE] at w
    obtain ⟨hu, wq⟩ := wVar_elim w
    obtain ⟨v', hm, i⟩ := lget_some Lo hx rfl hu
    exact nameX_L (cl := []) F hm (Kont.now k (tk := s.toks) wq F R i) B.kd hk hd'
  · rename_i hk
    split at he
    · rename_i i hg
      cases he
      rw [wE] at w
      obtain ⟨t, hn⟩ := B.gl.int _ _ hg
      exact nameX_K (cl := []) F B.X (topRead_of B.T) hn (Kont.now k (tk := s.toks) w F R ⟨t, rfl⟩) B.kd hk hd'
    · cases he
  · cases he

theorem ev_bin {e₁ e₂ : Expr} {op pos} {Wa Wb} (ha : EvOk Z vars h₀ L A l (eval e₁ env) Wa) (hb : EvOk Z vars h₀ L A l (eval e₂ env) Wb) :
    EvOk Z vars h₀ L A l (eval (.BinOp e₁ op e₂ pos) env) (fun H Q => Wa H fun x H => Wb H fun y H => wBin op x y H Q) := fun H Q w m s ad news Qc Ec F R Lo k =>
  wpAny_BinOp (ha.use w F R Lo fun v₁ H₁ x h₁ t₁ ad₁ news₁ w₁ F₁ R₁ L₁ g₁ i₁ => hb.use w₁ F₁ R₁ L₁ fun v₂ H₂ y h₂ t₂ ad₂ news₂ w₂ F₂ R₂ L₂ g₂ i₂ =>
    bin_ok w₂ F₂ R₂ (g₂.is i₁) i₂ fun v H' v' h' tk ad' news' q F' R' g i => k v H' v' h' tk ad' news' q F' R' ((g₁.trans g₂).trans g) i)
theorem ev_neg {e : Expr} {pos} {W} (h : EvOk Z vars h₀ L A l (eval e env) W) :
    EvOk Z vars h₀ L A l (eval (.UnaryOp .USub e pos) env) (fun H Q => W H fun x H => match x with | .int i => Q (.int (-i)) H | _ => False) := fun H Q w m s ad news Qc Ec F R Lo k =>
  UnaryOp_ (h.use w F R Lo fun v H₁ x h₁ t₁ ad₁ news₁ w₁ F₁ R₁ L₁ g₁ i₁ => by
    split at w₁
    · obtain ⟨t, rfl⟩ := i₁
      exact neg_int (k _ _ _ h₁ (t₁ + 1) ad₁ news₁ w₁ F₁ R₁ g₁ ⟨_, rfl⟩)
    · exact w₁.elim)
theorem ev_inv {e : Expr} {pos} {W} (h : EvOk Z vars h₀ L A l (eval e env) W) :
    EvOk Z vars h₀ L A l (eval (.UnaryOp .Invert e pos) env) (fun H Q => W H fun x H => match x with | .int i => Q (.int (Builtin.bitNot i)) H | _ => False) := fun H Q w m s ad news Qc Ec F R Lo k =>
  UnaryOp_ (h.use w F R Lo fun v H₁ x h₁ t₁ ad₁ news₁ w₁ F₁ R₁ L₁ g₁ i₁ => by
    split at w₁
    · obtain ⟨t, rfl⟩ := i₁
      exact invert_int (k _ _ _ h₁ (t₁ + 1) ad₁ news₁ w₁ F₁ R₁ g₁ ⟨_, rfl⟩)
    · exact w₁.elim)
theorem ev_not {e : Expr} {pos} {W} (h : EvOk Z vars h₀ L A l (eval e env) W) :
    EvOk Z vars h₀ L A l (eval (.UnaryOp .Not e pos) env) (fun H Q => W H fun x H => match truthA x with | some c => Q (.bool (!c)) H | none => False) := fun H Q w m s ad news Qc Ec F R Lo k =>
  UnaryOp_ (h.use w F R Lo fun v H₁ x h₁ t₁ ad₁ news₁ w₁ F₁ R₁ L₁ g₁ i₁ => by
    split at w₁
    · rename_i c hc
      exact not_of (truth_ok hc i₁ (k _ _ _ h₁ t₁ ad₁ news₁ w₁ F₁ R₁ g₁ rfl))
    · exact w₁.elim)
theorem ev_cmp {e₁ e₂ : Expr} {op pos} {Wa Wb} (hm : behindInMarks op e₂ = false) (ha : EvOk Z vars h₀ L A l (eval e₁ env) Wa) (hb : EvOk Z vars h₀ L A l (eval e₂ env) Wb) :
    EvOk Z vars h₀ L A l (eval (.Compare e₁ [op] [e₂] pos) env) (fun H Q => Wa H fun x H => Wb H fun y H => match cmpA op x y with | some c => Q (.bool c) H | none => False) := fun H Q w m s ad news Qc Ec F R Lo k =>
  wpAny_Compare1 (ha.use w F R Lo fun v₁ H₁ x h₁ t₁ ad₁ news₁ w₁ F₁ R₁ L₁ g₁ i₁ => hb.use w₁ F₁ R₁ L₁ fun v₂ H₂ y h₂ t₂ ad₂ news₂ w₂ F₂ R₂ L₂ g₂ i₂ => by
    split at w₂
    · rename_i c hc
      exact cmp_ok hc (g₂.is i₁) i₂ (k _ _ _ h₂ t₂ ad₂ news₂ w₂ F₂ R₂ (g₁.trans g₂) rfl)
    · exact w₂.elim) hm
theorem ev_chain {e₁ e₂ e₃ : Expr} {op₁ op₂ pos} {Wa Wb Wd'} (hm : lastMarks [op₁, op₂] [e₂, e₃] = false) (ha : EvOk Z vars h₀ L A l (eval e₁ env) Wa) (hb : EvOk Z vars h₀ L A l (eval e₂ env) Wb) (hc : EvOk Z vars h₀ L A l (eval e₃ env) Wd') :
    EvOk Z vars h₀ L A l (eval (.Compare e₁ [op₁, op₂] [e₂, e₃] pos) env) (fun H Q => Wa H fun x H => Wb H fun y H => match cmpA op₁ x y with
      | some true => Wd' H fun z H => (match cmpA op₂ y z with | some c => Q (.bool c) H | none => False)
      | some false => Q (.bool false) H
      | none => False) := fun H Q w m s ad news Qc Ec F R Lo k =>
  Compare_chain (ha.use w F R Lo fun v₁ H₁ x h₁ t₁ ad₁ news₁ w₁ F₁ R₁ L₁ g₁ i₁ => chain_link (hb.use w₁ F₁ R₁ L₁ fun v₂ H₂ y h₂ t₂ ad₂ news₂ w₂ F₂ R₂ L₂ g₂ i₂ => by
    split at w₂
    · rename_i hq
      exact cmp_ok hq (g₂.is i₁) i₂ (wpAny_truthy_bool (chain_last (hc.use w₂ F₂ R₂ L₂ fun v₃ H₃ z h₃ t₃ ad₃ news₃ w₃ F₃ R₃ L₃ g₃ i₃ => by
        split at w₃
        · rename_i c hc
          exact cmp_ok hc (g₃.is i₂) i₃ (k _ _ _ h₃ t₃ ad₃ news₃ w₃ F₃ R₃ ((g₁.trans g₂).trans g₃) rfl)
        · exact w₃.elim)))
    · rename_i hq
      exact cmp_ok hq (g₂.is i₁) i₂ (wpAny_truthy_bool (k _ _ _ h₂ t₂ ad₂ news₂ w₂ F₂ R₂ (g₁.trans g₂) rfl))
    · exact w₂.elim)) hm
theorem ev_and {e₁ e₂ : Expr} {rest pos} {Wa Wb} (ha : EvOk Z vars h₀ L A l (eval e₁ env) Wa) (hb : EvOk Z vars h₀ L A l (eval (.BoolOp .And (e₂ :: rest) pos) env) Wb) :
    EvOk Z vars h₀ L A l (eval (.BoolOp .And (e₁ :: e₂ :: rest) pos) env) (fun H Q => Wa H fun x H => match truthA x with | some true => Wb H Q | some false => Q x H | none => False) := fun H Q w m s ad news Qc Ec F R Lo k =>
  BoolOp_and (ha.use w F R Lo fun v₁ H₁ x h₁ t₁ ad₁ news₁ w₁ F₁ R₁ L₁ g₁ i₁ => by
    split at w₁
    · rename_i hq
      exact truth_ok hq i₁ (by
        rw [if_pos rfl]
        exact hb.use w₁ F₁ R₁ L₁ fun v H' v' h' tk ad' news' q F' R' _ g i => k v H' v' h' tk ad' news' q F' R' (g₁.trans g) i)
    · rename_i hq
      exact truth_ok hq i₁ (by
        rw [if_neg (by simp)]
        exact k _ _ _ h₁ t₁ ad₁ news₁ w₁ F₁ R₁ g₁ i₁)
    · exact w₁.elim)
theorem ev_or {e₁ e₂ : Expr} {rest pos} {Wa Wb} (ha : EvOk Z vars h₀ L A l (eval e₁ env) Wa) (hb : EvOk Z vars h₀ L A l (eval (.BoolOp .Or (e₂ :: rest) pos) env) Wb) :
    EvOk Z vars h₀ L A l (eval (.BoolOp .Or (e₁ :: e₂ :: rest) pos) env) (fun H Q => Wa H fun x H => match truthA x with | some true => Q x H | some false => Wb H Q | none => False) := fun H Q w m s ad news Qc Ec F R Lo k =>
  BoolOp_or (ha.use w F R Lo fun v₁ H₁ x h₁ t₁ ad₁ news₁ w₁ F₁ R₁ L₁ g₁ i₁ => by
    split at w₁
    · rename_i hq
      exact truth_ok hq i₁ (by
        rw [if_pos rfl]
        exact k _ _ _ h₁ t₁ ad₁ news₁ w₁ F₁ R₁ g₁ i₁)
    · rename_i hq
      exact truth_ok hq i₁ (by
        rw [if_neg (by simp)]
        exact hb.use w₁ F₁ R₁ L₁ fun v H' v' h' tk ad' news' q F' R' _ g i => k v H' v' h' tk ad' news' q F' R' (g₁.trans g) i)
    · exact w₁.elim)
theorem isCmp_is {t : Expr} (h : isCmp t = true) : ∃ a op b pos, t = .Compare a [op] [b] pos := by
  unfold isCmp at h
  split at h
  · exact ⟨_, _, _, _, rfl⟩
  · cases h

theorem evs_nil : EvL Z vars h₀ L A l (spliced []) (fun H Q => Q [] H) := fun H Q w m s ad news Qc Ec F R Lo k => spliced_nil (k [] H [] s.heap s.toks ad news w F R .refl .nil)
theorem evs_cons {ev : Sem Value} {rest : List (Bool × Sem Value)} {Wa Wb} (ha : EvOk Z vars h₀ L A l ev Wa) (hb : EvL Z vars h₀ L A l (spliced rest) Wb) :
    EvL Z vars h₀ L A l (spliced ((false, ev) :: rest)) (fun H Q => Wa H fun v H => Wb H fun vs H => Q (v :: vs) H) := fun H Q w m s ad news Qc Ec F R Lo k =>
  spliced_cons (ha.use w F R Lo fun v₁ H₁ x h₁ t₁ ad₁ news₁ w₁ F₁ R₁ L₁ g₁ i₁ => hb.use w₁ F₁ R₁ L₁ fun v₂ H₂ y h₂ t₂ ad₂ news₂ w₂ F₂ R₂ L₂ g₂ i₂ =>
    k _ _ _ h₂ t₂ ad₂ news₂ w₂ F₂ R₂ (g₁.trans g₂) (.cons (g₂.is i₁) i₂))
theorem starEach_cons {e : Expr} {rest : List Expr} (h : noStar e = true) : starEach (e :: rest) env = (false, eval e env) :: starEach rest env := by
  cases e <;> first | rfl | cases h
theorem backTo_cons {t : Sem Value} {rest : List (Bool × Sem Value)} {pos : Pos} : backTo pos ((false, t) :: rest) = (false, t) :: backTo pos rest := rfl
theorem star_any : ∀ {es : List Expr} {pos : Pos}, es.all noStar = true → (backTo pos (starEach es env)).any (·.1) = false
  | [], _, _ => rfl
  | e :: r, pos, h => by
    rw [List.all_cons, Bool.and_eq_true] at h
    rw [starEach_cons h.1, backTo_cons, List.any_cons, star_any h.2]; rfl
theorem comps_cons {e : Expr} {r : List Expr} {es : List E} (h : comps c (e :: r) = some es) : ∃ a b, comp c e = some a ∧ comps c r = some b ∧ es = a :: b := by
  rw [comps] at h
  refine bsome h ?_; clear h; intro a ha h
  refine bsome h ?_; clear h; intro b hb h
  cases h
  exact ⟨a, b, ha, hb, rfl⟩
theorem evs_ok {pos : Pos} : ∀ {es : List Expr} {es' : List E}, (∀ e ∈ es, ∀ e', comp c e = some e' → EvOk Z vars h₀ L A l (eval e env) (wE O l e')) → es.all noStar = true → comps c es = some es' →
    EvL Z vars h₀ L A l (spliced (backTo pos (starEach es env))) (wEs O l es')
  | [], es', _, _, h => by
    rw [comps] at h; cases h
    have : wEs O l [] = fun H Q => Q [] H := by funext H Q; rw [wEs]
    rw [this]; exact evs_nil
  | e :: rr, es', ih, hs, h => by
    obtain ⟨a, b, ha, hb, rfl⟩ := comps_cons h
    rw [List.all_cons, Bool.and_eq_true] at hs
    have : wEs O l (a :: b) = fun H Q => wE O l a H fun v H => wEs O l b H fun vs H => Q (v :: vs) H := by funext H Q; rw [wEs]
    rw [this, starEach_cons hs.1, backTo_cons]
    exact evs_cons (ih e (.head _) a ha) (evs_ok (fun e he => ih e (.tail _ he)) hs.2 hb)
end
end Mine

namespace Mine
section
variable {Z : Wd} {vars : List Str} {h₀ : Heap} {L : Addr} {A : Around} {l : List AV} {O : Orc} {c : Cx} {r : Nat} {env : Env}

theorem ands_ok {pos : Pos} : ∀ {es : List Expr} {es' : List E} {e' : E}, (∀ e ∈ es, ∀ e', comp c e = some e' → EvOk Z vars h₀ L A l (eval e env) (wE O l e')) → comps c es = some es' → ands es' = some e' →
    EvOk Z vars h₀ L A l (eval (.BoolOp .And es pos) env) (wE O l e')
  | [], es', e', _, h, q => by rw [comps] at h; cases h; cases q
  | [e], es', e', ih, h, q => by
    obtain ⟨a, b, ha, hb, rfl⟩ := comps_cons h
    rw [comps] at hb; cases hb
    cases q
    exact fun H Q w m s ad news Qc Ec F R Lo k => BoolOp_one (ih e (.head _) _ ha H Q w m s ad news Qc Ec F R Lo k)
  | e :: e₂ :: rr, es', e', ih, h, q => by
    obtain ⟨a, b, ha, hb, rfl⟩ := comps_cons h
    obtain ⟨a₂, b₂, ha₂, hb₂, rfl⟩ := comps_cons hb
    rw [ands] at q
    · obtain ⟨e'', q', rfl⟩ := Option.map_eq_some_iff.mp q
      have := ev_and (pos := pos) (ih e (.head _) a ha) (ands_ok (pos := pos) (fun e he => ih e (.tail _ he)) hb q')
      have e : wE O l (.and a e'') = (fun H Q => wE O l a H fun x H => match truthA x with | some true => wE O l e'' H Q | some false => Q x H | none => False) := by funext H Q; rw [wE]; first | done | rfl
      rw [e]; exact this
    · intro x; cases x
theorem ors_ok {pos : Pos} : ∀ {es : List Expr} {es' : List E} {e' : E}, (∀ e ∈ es, ∀ e', comp c e = some e' → EvOk Z vars h₀ L A l (eval e env) (wE O l e')) → comps c es = some es' → ors es' = some e' →
    EvOk Z vars h₀ L A l (eval (.BoolOp .Or es pos) env) (wE O l e')
  | [], es', e', _, h, q => by rw [comps] at h; cases h; cases q
  | [e], es', e', ih, h, q => by
    obtain ⟨a, b, ha, hb, rfl⟩ := comps_cons h
    rw [comps] at hb; cases hb
    cases q
    exact fun H Q w m s ad news Qc Ec F R Lo k => BoolOp_one (ih e (.head _) _ ha H Q w m s ad news Qc Ec F R Lo k)
  | e :: e₂ :: rr, es', e', ih, h, q => by
    obtain ⟨a, b, ha, hb, rfl⟩ := comps_cons h
    obtain ⟨a₂, b₂, ha₂, hb₂, rfl⟩ := comps_cons hb
    rw [ors] at q
    · obtain ⟨e'', q', rfl⟩ := Option.map_eq_some_iff.mp q
      have := ev_or (pos := pos) (ih e (.head _) a ha) (ors_ok (pos := pos) (fun e he => ih e (.tail _ he)) hb q')
      have e : wE O l (.or a e'') = (fun H Q => wE O l a H fun x H => match truthA x with | some true => Q x H | some false => wE O l e'' H Q | none => False) := by funext H Q; rw [wE]; first | done | rfl
      rw [e]; exact this
    · intro x; cases x

theorem ev_ite {t a b : Expr} {pos} {Wt Wa Wb} (hc : isCmp t = true) (ht : EvOk Z vars h₀ L A l (eval t env) Wt) (ha : EvOk Z vars h₀ L A l (eval a env) Wa) (hb : EvOk Z vars h₀ L A l (eval b env) Wb) :
    EvOk Z vars h₀ L A l (eval (.IfExp t a b pos) env) (fun H Q => Wt H fun x H => match truthA x with | some true => Wa H Q | some false => Wb H Q | none => False) := fun H Q w m s ad news Qc Ec F R Lo k => by
  obtain ⟨e₁, op, e₂, p, rfl⟩ := isCmp_is hc
  refine IfExp_ ?_
  have tst : ∀ {Qb : Bool → Shared → Prop}, wpAny (model Z.prog Z.w) A (eval (.Compare e₁ [op] [e₂] p) env) (fun v s₁ => wpAny (model Z.prog Z.w) A (truthy v) Qb Ec s₁) Ec s → wpAny (model Z.prog Z.w) A (PySem.isTrue (.Compare e₁ [op] [e₂] p) env (eval (.Compare e₁ [op] [e₂] p) env)) Qb Ec s := by
    intro Qb h
    have e : PySem.isTrue (.Compare e₁ [op] [e₂] p) env (eval (.Compare e₁ [op] [e₂] p) env) = (do
      let a ← eval e₁ env; let b ← holding [a] (markedBehindIn op e₂ (eval e₂ env)); standAt p; let c ← operate [a, b] (compareOp op a b); holding [c] (truthy c)) := rfl
    rw [e]
    have e' : eval (.Compare e₁ [op] [e₂] p) env = (do let a ← eval e₁ env; let b ← holding [a] (markedBehindIn op e₂ (eval e₂ env)); standAt p; operate [a, b] (compareOp op a b)) := rfl
    rw [e'] at h
    intro Γ q hΓ
    have z := h Γ q hΓ
    simp only [Sem.wp_bind', Sem.wp_holding, Sem.wp_cmd_standAt, Sem.wp_operate] at z ⊢
    refine Sem.wp_mono _ Γ _ (fun a p₁ s₁ h₁ => Sem.wp_mono _ Γ _ (fun b _ s₂ h₂ => Sem.wp_mono _ Γ _ (fun c p₃ s₃ h₃ => h₃ Γ _ hΓ) (fun _ _ _ h' => h') _ _ h₂) (fun _ _ _ h' => h') _ _ h₁) (fun _ _ _ h' => h') _ _ z
  refine tst (ht.use w F R Lo fun v₁ H₁ x h₁ t₁ ad₁ news₁ w₁ F₁ R₁ L₁ g₁ i₁ => ?_)
  split at w₁
  · rename_i hq
    refine truth_ok hq i₁ ?_
    rw [if_pos rfl]
    exact ha.use w₁ F₁ R₁ L₁ fun v H' v' h' tk ad' news' q F' R' _ g i => k v H' v' h' tk ad' news' q F' R' (g₁.trans g) i
  · rename_i hq
    refine truth_ok hq i₁ ?_
    rw [if_neg (by simp)]
    exact hb.use w₁ F₁ R₁ L₁ fun v H' v' h' tk ad' news' q F' R' _ g i => k v H' v' h' tk ad' news' q F' R' (g₁.trans g) i
  · exact w₁.elim

theorem glob_some {c : Cx} {x : Str} {g : G} (h : c.glob x = some g) : (x == Str.ofString "__debug__") = false ∧ c.scope.names.lookup x = some .globalImplicit ∧ c.globs x = some g := by
  unfold Cx.glob at h
  split at h
  · cases h
  rename_i hd
  split at h
  · rename_i hk
    exact ⟨by simpa using hd, hk, h⟩
  · cases h

theorem spl_ne {as : List Expr} (h : as.isEmpty = false) : ∃ e rest, as = e :: rest := by
  cases as with
  | nil => cases h
  | cons e r => exact ⟨e, r, rfl⟩

theorem fn_call (B : Fm Z O c r h₀ L A env) {f : Nat} {v : Value} (hv : Z.ftab[f]? = some v) {H : Hp} {args : List AV} {vs : List Value} {Q : AV → Hp → Prop} {m s ad news} {Qc Ec : Value → Shared → Prop} (w : O f args H Q) (F : Fr h₀ L s.heap m) (R : Rp Z h₀ L s.heap ad news H)
    (i : All2 (Is ad) args vs) (k : Kont Z h₀ L m s ad news Q Qc) : wpAny (model Z.prog Z.w) A (call v vs) Qc Ec s := by
  obtain ⟨outer, A₀, base, hA, hB⟩ := B.fr
  obtain ⟨qual, fa, cdv, he⟩ := B.en
  exact B.orc f v hv args H Q w A env outer A₀ base h₀ L m s ad news vs Qc Ec (by rw [he]; rfl) (by rw [he]; exact B.kd) hA hB B.X B.T B.hh B.dp F R i k

theorem ev_callfn (B : Fm Z O c r h₀ L A env) {x : Str} {p pos : Pos} {as : List Expr} {as' : List E} {f : Nat} (hs : as.all noStar = true) (hne : as.isEmpty = false) (hg : c.glob x = some (.fn f))
    (ha : EvL Z c.vars h₀ L A l (spliced (backTo pos (starEach as env))) (wEs O l as')) : EvOk Z c.vars h₀ L A l (eval (.Call (.Name x p) as [] pos) env) (wE O l (.call f as')) := by
  intro H Q w m s ad news Qc Ec F R Lo k
  rw [wE] at w
  obtain ⟨hd, hk, hg⟩ := glob_some hg
  obtain ⟨v, hv, hn⟩ := B.gl.fn _ _ hg
  obtain ⟨e, rest, rfl⟩ := spl_ne hne
  rw [List.all_cons, Bool.and_eq_true] at hs
  refine Call_ ?_ rfl
  obtain ⟨qual, fa, cdv, he⟩ := B.en
  have B' := B
  subst he
  refine nameX_K (cl := []) F B.X (topRead_of B.T) hn ?_ B.kd hk hd
  refine callWith_K B.X (Z.hKeep v (List.mem_iff_getElem?.mpr ⟨f, hv⟩)) ?_ (starEach_cons hs.1) (star_any hs.2)
  refine ha.use w F R Lo fun v₁ H₁ x h₁ t₁ ad₁ news₁ w₁ F₁ R₁ L₁ g₁ i₁ => ⟨B.X.keeps F₁.keep, ?_⟩
  exact fn_call B' hv w₁ F₁ R₁ i₁ fun v H' v' h' tk ad' news' q F' R' g i => k v H' v' h' tk ad' news' q F' R' (g₁.trans g) i

theorem ev_callB (B : Fm Z O c r h₀ L A env) {x : Str} {p pos : Pos} {as : List Expr} {as' : List E} {bv : Value} {W : List AV → Hp → (AV → Hp → Prop) → Prop} (hs : as.all noStar = true) (hne : as.isEmpty = false)
    (hd : (x == Str.ofString "__debug__") = false) (hk : c.scope.names.lookup x = some .globalImplicit) (hn : nsIn Z.K mainGlobals x = some none) (hb : bootBuiltins x = some bv) (hx : x ≠ Str.ofString "__name__")
    (hbv : (∃ T, bv = .type T) ∨ ∃ id, bv = .builtin id)
    (ha : EvL Z c.vars h₀ L A l (spliced (backTo pos (starEach as env))) (wEs O l as'))
    (hc : ∀ {H : Hp} {args : List AV} {vs : List Value} {Q : AV → Hp → Prop} {m s ad news} {Qc Ec : Value → Shared → Prop}, W args H Q → Fr h₀ L s.heap m → Rp Z h₀ L s.heap ad news H → All2 (Is ad) args vs → Kont Z h₀ L m s ad news Q Qc → wpAny (model Z.prog Z.w) A (call bv vs) Qc Ec s) :
    EvOk Z c.vars h₀ L A l (eval (.Call (.Name x p) as [] pos) env) (fun H Q => wEs O l as' H fun vs H => W vs H Q) := by
  intro H Q w m s ad news Qc Ec F R Lo k
  obtain ⟨e, rest, rfl⟩ := spl_ne hne
  have hs' := hs
  rw [List.all_cons, Bool.and_eq_true] at hs
  refine Call_ ?_ rfl
  obtain ⟨qual, fa, cdv, he⟩ := B.en
  subst he
  refine nameX_B (cl := []) F B.X (topRead_of B.T) hn hb hx ?_ B.kd hk hd
  have key : wpAny (model Z.prog Z.w) A (spliced (backTo pos (starEach (e :: rest) (envOf qual c.scope L fa cdv)))) (fun vs s₁ => wpAny (model Z.prog Z.w) A (call bv vs) Qc Ec s₁) Ec s :=
    ha.use w F R Lo fun v₁ H₁ x h₁ t₁ ad₁ news₁ w₁ F₁ R₁ L₁ g₁ i₁ => hc w₁ F₁ R₁ i₁ fun v H' v' h' tk ad' news' q F' R' g i => k v H' v' h' tk ad' news' q F' R' (g₁.trans g) i
  have any := star_any (env := envOf qual c.scope L fa cdv) (pos := pos) hs'
  rw [starEach_cons hs.1, backTo_cons] at key any ⊢
  rcases hbv with ⟨T, rfl⟩ | ⟨id, rfl⟩
  · exact PySem.callWith_type any (evalArgs_plain key)
  · exact PySem.Calls.callWith_builtin any (evalArgs_plain key)

theorem len_ok {H : Hp} {args : List AV} {vs : List Value} {Q : AV → Hp → Prop} {m s ad news} {Qc Ec : Value → Shared → Prop}
    (w : match args with | [.ref k] => (match H[k]? with | some (.list vs) => vs.length ≤ 1000 ∧ Q (.int vs.length) H | _ => False) | _ => False) (F : Fr h₀ L s.heap m) (R : Rp Z h₀ L s.heap ad news H) (i : All2 (Is ad) args vs) (k : Kont Z h₀ L m s ad news Q Qc) :
    wpAny (model Z.prog Z.w) A (call (.builtin "len") vs) Qc Ec s := by
  split at w
  · rename_i kk
    cases i with
    | cons i j =>
      cases j
      obtain ⟨a, ea, rfl⟩ := i
      split at w
      · rename_i vs e
        obtain ⟨items, nn, hm, hl, r⟩ := R.lst ea e
        have hlen := r.length
        refine call_len_list hl (by simp; omega) ?_
        have : ((List.toArray items).size : Int) = vs.length := by simp [hlen]
        rw [this]
        exact k _ _ _ s.heap (s.toks + 1 + 1) ad news w.2 F R .refl ⟨_, rfl⟩
      · exact w.elim
  · exact w.elim
theorem copy_ok {H : Hp} {args : List AV} {vs : List Value} {Q : AV → Hp → Prop} {m s ad news} {Qc Ec : Value → Shared → Prop}
    (w : match args with | [.ref k] => (match H[k]? with | some (.list vs) => vs.length ≤ 1000 ∧ Q (.ref H.length) (H ++ [.list vs]) | _ => False) | _ => False) (F : Fr h₀ L s.heap m) (R : Rp Z h₀ L s.heap ad news H) (i : All2 (Is ad) args vs) (k : Kont Z h₀ L m s ad news Q Qc) :
    wpAny (model Z.prog Z.w) A (call (.type "list") vs) Qc Ec s := by
  split at w
  · rename_i kk
    cases i with
    | cons i j =>
      cases j
      obtain ⟨a, ea, rfl⟩ := i
      split at w
      · rename_i vs e
        obtain ⟨items, nn, hm, hl, r⟩ := R.lst ea e
        have hlen := r.length
        refine list_copyK F R.nw hl (fun D cc h' F' N' lt => ?_) (by simp [sizeLine_eq]; omega)
        obtain ⟨R', g, el⟩ := R.push (o := .list vs) N' lt ⟨items, cc, rfl, r.mono fun _ _ z => z.mono⟩
        exact k _ _ _ h' s.toks _ _ w.2 F' R' g ⟨_, el, rfl⟩
      · exact w.elim
  · exact w.elim
theorem range_ok {H : Hp} {args : List AV} {vs : List Value} {Q : AV → Hp → Prop} {m s ad news} {Qc Ec : Value → Shared → Prop}
    (w : match rangeA args with | some (a, b, c) => (c.natAbs < 1000 ∧ c ≠ 0) ∧ Q (.ref H.length) (H ++ [.range a b c]) | none => False) (F : Fr h₀ L s.heap m) (R : Rp Z h₀ L s.heap ad news H) (i : All2 (Is ad) args vs) (k : Kont Z h₀ L m s ad news Q Qc) :
    wpAny (model Z.prog Z.w) A (call (.type "range") vs) Qc Ec s := by
  have lt : ∀ p ∈ news, p.1 < s.heap.objs.size := fun p hp => Heap.lt_size (R.nw p hp).1
  have fin : ∀ (a b c : Int) (t u v : Tok) (tk : Nat), Q (.ref H.length) (H ++ [.range a b c]) → Qc (.ref s.heap.objs.size) { s with heap := s.heap.push { cls := .type "range", data := .fields #[.int a t, .int b u, .int c v] }, toks := tk } := by
    intro a b c t u v tk q
    obtain ⟨R', g, el⟩ := R.push (o := .range a b c) (R.nw.push F { cls := .type "range", data := .fields #[.int a t, .int b u, .int c v] }) lt ⟨t, u, v, rfl⟩
    exact k _ _ _ _ tk _ _ q (F.push _) R' g ⟨_, el, rfl⟩
  unfold rangeA at w
  split at w
  · rename_i a b c hq
    split at hq
    · cases hq
      cases i with
      | cons i j =>
        cases j
        obtain ⟨t, rfl⟩ := i
        exact call_range_1 (fin _ _ _ _ _ _ _ w.2)
    · cases hq
      cases i with
      | cons i j =>
        cases j with
        | cons j l =>
          cases l
          obtain ⟨t, rfl⟩ := i
          obtain ⟨u, rfl⟩ := j
          exact call_range_2 (fin _ _ _ _ _ _ _ w.2)
    · cases hq
      cases i with
      | cons i j =>
        cases j with
        | cons j l =>
          cases l with
          | cons l l' =>
            cases l'
            obtain ⟨t, rfl⟩ := i
            obtain ⟨u, rfl⟩ := j
            obtain ⟨v, rfl⟩ := l
            exact call_range_3 w.1.2 (fin _ _ _ _ _ _ _ w.2) (.inl (PyProof.noPylong_small (by omega)))
    · cases hq
  · exact w.elim

theorem ev_call (B : Fm Z O c r h₀ L A env) {x : Str} {p pos : Pos} {as : List Expr} {as' : List E} {e' : E} (hs : as.all noStar = true) (hne : as.isEmpty = false) (hc : callOf (c.glob x) as' = some e')
    (ha : EvL Z c.vars h₀ L A l (spliced (backTo pos (starEach as env))) (wEs O l as')) : EvOk Z c.vars h₀ L A l (eval (.Call (.Name x p) as [] pos) env) (wE O l e') := by
  unfold callOf at hc
  split at hc
  · rename_i f hg
    cases hc
    exact ev_callfn B hs hne hg ha
  · rename_i hg
    cases hc
    obtain ⟨hd, hk, hg⟩ := glob_some hg
    obtain ⟨h1, h2, h3⟩ := B.gl.rng _ hg
    refine fun H Q w => ev_callB B (W := fun args H Q => match rangeA args with | some (a, b, c) => (c.natAbs < 1000 ∧ c ≠ 0) ∧ Q (.ref H.length) (H ++ [.range a b c]) | none => False) hs hne hd hk h1 h2 h3 (.inl ⟨_, rfl⟩) ha (fun w F R i k => range_ok w F R i k) H Q (by rw [wE] at w; exact w)
  · rename_i hg
    cases hc
    obtain ⟨hd, hk, hg⟩ := glob_some hg
    obtain ⟨h1, h2, h3⟩ := B.gl.len _ hg
    refine fun H Q w => ev_callB B (W := fun args H Q => match args with | [.ref k] => (match H[k]? with | some (.list vs) => vs.length ≤ 1000 ∧ Q (.int vs.length) H | _ => False) | _ => False) hs hne hd hk h1 h2 h3 (.inr ⟨_, rfl⟩) ha (fun w F R i k => len_ok w F R i k) H Q (by rw [wE] at w; exact w)
  · rename_i hg
    cases hc
    obtain ⟨hd, hk, hg⟩ := glob_some hg
    obtain ⟨h1, h2, h3⟩ := B.gl.lst _ hg
    refine fun H Q w => ev_callB B (W := fun args H Q => match args with | [.ref k] => (match H[k]? with | some (.list vs) => vs.length ≤ 1000 ∧ Q (.ref H.length) (H ++ [.list vs]) | _ => False) | _ => False) hs hne hd hk h1 h2 h3 (.inl ⟨_, rfl⟩) ha (fun w F R i k => copy_ok w F R i k) H Q (by rw [wE] at w; exact w)
  · cases hc

theorem attr_name (B : Fm Z O c r h₀ L A env) {x : Str} {n : Nat} (h : c.attr x = some n) : Z.attrs[n]? = some x := by
  rw [← B.at']; exact findIdx_name h
theorem ev_attr (B : Fm Z O c r h₀ L A env) {v : Expr} {x : Str} {pos : Pos} {n : Nat} {W} (hv : ∀ f as ks p, v ≠ .Call f as ks p) (hx : c.attr x = some n) (ha : EvOk Z vars h₀ L A l (eval v env) W) :
    EvOk Z vars h₀ L A l (eval (.Attribute v x pos) env) (fun H Q => W H fun y H => wGetA y n H fun v => Q v H) := fun H Q w m s ad news Qc Ec F R Lo k =>
  Attribute_any_ (ha.use w F R Lo fun v₁ H₁ y h₁ t₁ ad₁ news₁ w₁ F₁ R₁ L₁ g₁ i₁ =>
    getA_ok B.X (attr_name B hx) w₁ F₁ R₁ i₁ fun v H' v' h' tk ad' news' q F' R' g i => k v H' v' h' tk ad' news' q F' R' (g₁.trans g) i) (by
      cases v <;> first | rfl | exact absurd rfl (hv _ _ _ _))
theorem ev_sub {v i : Expr} {pos : Pos} {Wa Wb} (hs : noSlice i = true) (ha : EvOk Z vars h₀ L A l (eval v env) Wa) (hb : EvOk Z vars h₀ L A l (eval i env) Wb) :
    EvOk Z vars h₀ L A l (eval (.Subscript v i pos) env) (fun H Q => Wa H fun x H => Wb H fun y H => wGetI x y H fun v => Q v H) := fun H Q w m s ad news Qc Ec F R Lo k =>
  Subscript_ (ha.use w F R Lo fun v₁ H₁ x h₁ t₁ ad₁ news₁ w₁ F₁ R₁ L₁ g₁ i₁ => hb.use w₁ F₁ R₁ L₁ fun v₂ H₂ y h₂ t₂ ad₂ news₂ w₂ F₂ R₂ L₂ g₂ i₂ => by
    obtain ⟨z, T, id, hT, hl⟩ := getI_core (s := { s with heap := h₂, toks := t₂ }) w₂ F₂ R₂ (g₂.is i₁) i₂ (Qc := Qc) (Ec := Ec) (A := A) fun v H' v' h' tk ad' news' q F' R' g i => k v H' v' h' tk ad' news' q F' R' ((g₁.trans g₂).trans g) i
    exact tail_any (ops := [x, y]) hT hl z (by cases i <;> first | rfl | cases hs))
theorem ev_tab (B : Fm Z O c r h₀ L A env) {v i : Expr} {pos : Pos} {ns : List Int} {W} (hs : noSlice i = true) (ht : c.isTab v = some ns) (hb : EvOk Z vars h₀ L A l (eval i env) W) :
    EvOk Z vars h₀ L A l (eval (.Subscript v i pos) env) (fun H Q => W H fun y H => match y with
      | .int x => (0 ≤ x ∧ x < 1000) ∧ (match ns[x.toNat]? with | some v => Q (.int v) H | none => False)
      | _ => False) := fun H Q w m s ad news Qc Ec F R Lo k => by
  unfold Cx.isTab at ht
  split at ht
  · rename_i x p
    split at ht
    · rename_i ns' hg
      cases ht
      obtain ⟨hd, hk, hg⟩ := glob_some hg
      obtain ⟨a, lt, n, dd, sl, h1, h2, h3⟩ := B.gl.tab _ _ hg
      obtain ⟨qual, fa, cdv, he⟩ := B.en
      subst he
      refine Subscript_ (nameX_K (cl := []) F B.X (topRead_of B.T) h1 ?_ B.kd hk hd)
      refine hb.use w F R Lo fun v₂ H₂ y h₂ t₂ ad₂ news₂ w₂ F₂ R₂ L₂ g₂ i₂ => ?_
      split at w₂
      · rename_i xx
        obtain ⟨t, rfl⟩ := i₂
        obtain ⟨⟨w0, w1⟩, w2⟩ := w₂
        split at w2
        · rename_i v ev
          obtain ⟨v', hv, iv⟩ := h3.get ev
          have hlt := (List.getElem?_eq_some_iff.mp hv).1
          exact topTup_K F₂ B.X h2 (by omega) (by omega) (seqIndex_of w0 (by omega)) hv (k _ _ _ h₂ t₂ ad₂ news₂ w2 F₂ R₂ g₂ iv) (by cases i <;> first | rfl | cases hs)
        · exact w2.elim
      · exact w₂.elim
    · cases ht
  · cases ht
theorem ev_list {es : List Expr} {pos : Pos} {W} (ha : EvL Z vars h₀ L A l (spliced (backTo pos (starEach es env))) W) :
    EvOk Z vars h₀ L A l (eval (.List es pos) env) (fun H Q => W H fun vs H => vs.length ≤ 1000 ∧ Q (.ref H.length) (H ++ [.list vs])) := fun H Q w m s ad news Qc Ec F R Lo k =>
  List_ (ha.use w F R Lo fun v₁ H₁ x h₁ t₁ ad₁ news₁ w₁ F₁ R₁ L₁ g₁ i₁ => by
    have hlen := i₁.length
    refine newList_K F₁ R₁.nw (fun D h' F' N' lt => ?_) (by simp [sizeLine_eq]; omega)
    obtain ⟨R', g, el⟩ := R₁.push (o := .list v₁) N' lt ⟨x, 0, rfl, i₁.mono fun _ _ z => z.mono⟩
    exact k _ _ _ h' t₁ _ _ w₁.2 F' R' (g₁.trans g) ⟨_, el, rfl⟩)
theorem ev_tup {es : List Expr} {kk : Nat} {pos : Pos} {W} (ha : EvL Z vars h₀ L A l (spliced (backTo pos (starEach es env))) W) :
    EvOk Z vars h₀ L A l (eval (.Tuple es kk pos) env) (fun H Q => W H fun vs H => vs.length ≤ 1000 ∧ Q (.ref H.length) (H ++ [.tup vs])) := fun H Q w m s ad news Qc Ec F R Lo k =>
  Tuple_ (ha.use w F R Lo fun v₁ H₁ x h₁ t₁ ad₁ news₁ w₁ F₁ R₁ L₁ g₁ i₁ => by
    have hlen := i₁.length
    refine newTuple_N F₁ R₁.nw (fun h' F' N' => ?_) (by simp [sizeLine_eq]; omega)
    have lt : ∀ p ∈ news₁, p.1 < h₁.objs.size := fun p hp => Heap.lt_size (R₁.nw p hp).1
    obtain ⟨R', g, el⟩ := R₁.push (o := .tup v₁) N' lt ⟨x, 0, rfl, i₁.mono fun _ _ z => z.mono⟩
    exact k _ _ _ h' t₁ _ _ w₁.2 F' R' (g₁.trans g) ⟨_, el, rfl⟩)
theorem app_core {o v : AV} {v' : Value} {a : Addr} {kk : Nat} {Qu : Hp → Prop} {H : Hp} {m} {s : Shared} {ad news} {Qc Ec : Value → Shared → Prop} (w : wApp (.ref kk) v H Qu) (F : Fr h₀ L s.heap m) (R : Rp Z h₀ L s.heap ad news H) (ea : ad[kk]? = some a) (iv : Is ad v v')
    (k : ∀ H' h' tk ad' news', Qu H' → Fr h₀ L h' m → Rp Z h₀ L h' ad' news' H' → Gr ad news ad' news' → Qc .none { s with heap := h', toks := tk }) : wpAny (model Z.prog Z.w) A (call (.builtin "list.append") [.ref a, v']) Qc Ec s := by
  unfold wApp at w
  dsimp only at w
  split at w
  · rename_i vs e
    obtain ⟨items, nn, hm, hl, r⟩ := R.lst ea e
    have hlen := r.length
    refine append_K (its := items.toArray) (n := nn) F R.nw (updN_upd R.nd hm) (fun h' F' N' => ?_) (by simp [sizeLine_eq]; omega)
    obtain ⟨R', g⟩ := R.upd ea hm N' (o' := .list (vs ++ [v])) ⟨items ++ [v'], nn + 1, by simp, r.append (.cons iv .nil)⟩
    exact k _ h' s.toks _ _ w.2 F' R' g
  · exact w.elim
theorem ev_app {o e : Expr} {n : Str} {apos pos : Pos} {Wa Wb} (hn : (n == Str.ofString "append") = true) (hl : (apos.endLine == pos.line) = true) (hs : noStar e = true) (hb : attributeBase o n env (eval o env) = eval o env)
    (ha : EvOk Z vars h₀ L A l (eval o env) Wa) (he : EvOk Z vars h₀ L A l (eval e env) Wb) :
    EvOk Z vars h₀ L A l (eval (.Call (.Attribute o n apos) [e] [] pos) env) (fun H Q => Wa H fun x H => match x with
      | .ref k => (match H[k]? with | some (.list _) => Wb H fun y H => wApp x y H fun H => Q .none H | _ => False)
      | _ => False) := fun H Q w m s ad news Qc Ec F R Lo k => by
  have en : n = Str.ofString "append" := eq_of_beq hn
  subst en
  refine Call_method1 hb (by rw [starEach_cons hs]; rfl) hl (ha.use w F R Lo fun v₁ H₁ x h₁ t₁ ad₁ news₁ w₁ F₁ R₁ L₁ g₁ i₁ => ?_)
  split at w₁
  · rename_i kk
    split at w₁
    · rename_i vs ee
      obtain ⟨a, ea, rfl⟩ := i₁
      obtain ⟨items, nn, hm, hl, r⟩ := R₁.lst ea ee
      refine ⟨"list", "list.append", PySem.F.plainAttrs_list, PySem.F.slot_list_append, PySem.F.type_list_append, hl.typeIs, fun b e => by cases e; exact ⟨_, (R₁.nw _ hm).1, rfl⟩, ?_⟩
      refine PySem.Calls.callWith_builtin rfl (evalArgs_plain (spliced_cons (he.use w₁ F₁ R₁ L₁ fun v₂ H₂ y h₂ t₂ ad₂ news₂ w₂ F₂ R₂ L₂ g₂ i₂ => spliced_nil ?_)))
      have ea₂ : ad₂[kk]? = some a := by
        obtain ⟨t, rfl⟩ := g₂.pre
        exact get_app ea
      exact app_core (o := .none) w₂ F₂ R₂ ea₂ i₂ fun H' h' tk ad' news' q F' R' g => k _ _ _ h' tk ad' news' q F' R' ((g₁.trans g₂).trans g) rfl
    · exact w₁.elim
  · exact w₁.elim

theorem EvOk.ofEq {ev : Sem Value} {W W' : Hp → (AV → Hp → Prop) → Prop} (h : EvOk Z vars h₀ L A l ev W) (e : ∀ H Q, W' H Q → W H Q) : EvOk Z vars h₀ L A l ev W' := fun H Q w => h H Q (e H Q w)

theorem sizeOf_mem {e : Expr} {es : List Expr} (h : e ∈ es) : sizeOf e < sizeOf es := List.sizeOf_lt_of_mem h

theorem base_rfl {o : Expr} {n : Str} (h : baseOk o = true) : attributeBase o n env (eval o env) = eval o env := by
  unfold baseOk at h
  split at h
  · rfl
  · rfl
  · rfl
  · cases h
theorem eval_sound (B : Fm Z O c r h₀ L A env) : ∀ n (e : Expr), sizeOf e < n → ∀ e', comp c e = some e' → EvOk Z c.vars h₀ L A l (eval e env) (wE O l e') := by
  intro n
  induction n with
  | zero => intro e h; exact absurd h (Nat.not_lt_zero _)
  | succ n ih =>
    intro e hsz e' he
    have mem : ∀ {es : List Expr}, sizeOf es < n + 1 → ∀ e ∈ es, ∀ e', comp c e = some e' → EvOk Z c.vars h₀ L A l (eval e env) (wE O l e') := fun hs e hm e' => ih e (by have := sizeOf_mem hm; omega) e'
    unfold comp at he
    split at he
    · refine msome he ?_; clear he; rintro v hv rfl
      unfold constE at hv
      split at hv
      · cases hv; exact ev_int.ofEq fun H Q w => w
      · cases hv; exact ev_bool.ofEq fun H Q w => w
      · cases hv; exact ev_none.ofEq fun H Q w => w
      · cases hv
    · exact ev_name B he
    · split at he
      · split at he
        · rename_i hc
          refine bsome he ?_; clear he; intro a ha he
          refine bsome he ?_; clear he; intro b hb he
          refine bsome he ?_; clear he; intro d hd he
          refine bsome he ?_; clear he; intro f hf he
          cases he
          exact (ev_bin (ev_ite hc (ih _ (by simp at hsz; omega) a ha) (ih _ (by simp at hsz; omega) b hb) (ih _ (by simp at hsz; omega) d hd)) (ih _ (by simp at hsz; omega) f hf)).ofEq fun H Q w => w
        · cases he
      · refine bsome he ?_; clear he; intro a ha he
        refine bsome he ?_; clear he; intro b hb he
        cases he
        exact (ev_bin (ih _ (by simp at hsz; omega) a ha) (ih _ (by simp at hsz; omega) b hb)).ofEq fun H Q w => w
    · refine bsome he ?_; clear he; intro a ha he
      unfold unE at he
      split at he
      · cases he; exact (ev_neg (ih _ (by simp at hsz; omega) a ha)).ofEq fun H Q w => w
      · cases he; exact (ev_inv (ih _ (by simp at hsz; omega) a ha)).ofEq fun H Q w => w
      · cases he; exact (ev_not (ih _ (by simp at hsz; omega) a ha)).ofEq fun H Q w => w
      · cases he
    · refine bsome he ?_; clear he; intro a ha he
      refine bsome he ?_; clear he; intro bs hb he
      rcases cmpE_some he with ⟨op, b, rfl, rfl, hm, rfl⟩ | ⟨o₁, o₂, b₁, b₂, rfl, rfl, hm, rfl⟩
      · obtain ⟨r, rfl, hb'⟩ := comps1 hb
        exact (ev_cmp (by simpa using hm) (ih _ (by simp at hsz; omega) a ha) (ih _ (by simp at hsz; omega) b hb')).ofEq fun H Q w => w
      · obtain ⟨r, r', rfl, hb', hd⟩ := comps2 hb
        exact (ev_chain hm (ih _ (by simp at hsz; omega) a ha) (ih _ (by simp at hsz; omega) b₁ hb') (ih _ (by simp at hsz; omega) b₂ hd)).ofEq fun H Q w => w
    · refine bsome he ?_; clear he; intro es' hes he
      split at he
      · exact ands_ok (mem (by simp at hsz; omega)) hes he
      · exact ors_ok (mem (by simp at hsz; omega)) hes he
    · split at he
      · rename_i hk
        rw [List.isEmpty_iff] at hk
        subst hk
        split at he
        · split at he
          · rename_i hc
            simp only [Bool.and_eq_true] at hc
            refine bsome he ?_; clear he; intro a ha he
            refine bsome he ?_; clear he; intro es hd he
            obtain ⟨d, rfl, rfl⟩ := oneApp_some he
            obtain ⟨x, rfl, hd'⟩ := comps1 hd
            exact (ev_app hc.1.1.1 hc.1.1.2 (by simpa using hc.1.2) (base_rfl hc.2) (ih _ (by simp at hsz; omega) a ha) (ih _ (by simp at hsz; omega) d hd')).ofEq fun H Q w => w
          · cases he
        · split at he
          · rename_i hc
            simp only [Bool.and_eq_true, Bool.not_eq_true'] at hc
            refine bsome he ?_; clear he; intro es' hes he
            exact ev_call B hc.1 hc.2 he (evs_ok (mem (by simp at hsz; omega)) hc.1 hes)
          · cases he
        · cases he
      · cases he
    · split at he
      · rename_i hv
        refine bsome he ?_; clear he; intro a ha he
        refine bsome he ?_; clear he; intro k hk he
        cases he
        exact (ev_attr B (fun f as ks p q => by rw [q] at hv; cases hv) hk (ih _ (by simp at hsz; omega) a ha)).ofEq fun H Q w => w
      · cases he
    · split at he
      · rename_i hs
        split at he
        · rename_i ns ht
          refine bsome he ?_; clear he; intro a ha he
          cases he
          exact (ev_tab B hs ht (ih _ (by simp at hsz; omega) a ha)).ofEq fun H Q w => w
        · refine bsome he ?_; clear he; intro a ha he
          refine bsome he ?_; clear he; intro b hb he
          cases he
          exact (ev_sub hs (ih _ (by simp at hsz; omega) a ha) (ih _ (by simp at hsz; omega) b hb)).ofEq fun H Q w => w
      · cases he
    · split at he
      · rename_i hs
        refine bsome he ?_; clear he; intro es' hes he
        cases he
        exact (ev_list (evs_ok (mem (by simp at hsz; omega)) hs hes)).ofEq fun H Q w => w
      · cases he
    · split at he
      · rename_i hs
        refine bsome he ?_; clear he; intro es' hes he
        cases he
        exact (ev_tup (evs_ok (mem (by simp at hsz; omega)) hs hes)).ofEq fun H Q w => w
      · cases he
    · cases he
theorem eval_ok (B : Fm Z O c r h₀ L A env) {e : Expr} {e' : E} (he : comp c e = some e') : EvOk Z c.vars h₀ L A l (eval e env) (wE O l e') := eval_sound B _ e (Nat.lt_succ_self _) e' he
end
end Mine

namespace Mine
section
variable {Z : Wd} {vars : List Str} {h₀ : Heap} {L : Addr} {A : Around} {l : List AV} {O : Orc} {c : Cx} {r : Nat} {env : Env}

/-! an expression as a test -/
theorem EvB.ofEq {ev : Sem Bool} {W W' : Hp → (Bool → Hp → Prop) → Prop} (h : EvB Z vars h₀ L A l ev W) (e : ∀ H Q, W' H Q → W H Q) : EvB Z vars h₀ L A l ev W' := fun H Q w => h H Q (e H Q w)
theorem evb_plain {e : Expr} {W} (hp : PySem.isTrue e env (eval e env) = (do let v ← eval e env; standAt e.pos; holding [v] (truthy v))) (h : EvOk Z vars h₀ L A l (eval e env) W) :
    EvB Z vars h₀ L A l (PySem.isTrue e env (eval e env)) (fun H Q => W H fun x H => match truthA x with | some c => Q c H | none => False) := fun H Q w m s ad news Qc Ec F R Lo k =>
  isTrue_plain (h.use w F R Lo fun v₁ H₁ x h₁ t₁ ad₁ news₁ w₁ F₁ R₁ L₁ g₁ i₁ => by
    split at w₁
    · rename_i c hc
      exact truth_ok hc i₁ (k _ _ h₁ t₁ ad₁ news₁ w₁ F₁ R₁ g₁)
    · exact w₁.elim) hp
theorem evb_and {pos : Pos} {whole : Sem Value} : ∀ {es : List Expr} {es' : List E} {e' : E}, (∀ e ∈ es, ∀ e', comp c e = some e' → EvB Z vars h₀ L A l (PySem.isTrue e env (eval e env)) (wT O l e')) → comps c es = some es' → ands es' = some e' →
    EvB Z vars h₀ L A l (PySem.isTrue (.BoolOp .And es pos) env whole) (wT O l e')
  | [], es', e', _, h, q => by rw [comps] at h; cases h; cases q
  | [e], es', e', ih, h, q => by
    obtain ⟨a, b, ha, hb, rfl⟩ := comps_cons h
    rw [comps] at hb; cases hb
    cases q
    refine fun H Q w m s ad news Qc Ec F R Lo k => isTrue_and ((ih e (.head _) _ ha).use w F R Lo fun v H' h' tk ad' news' q F' R' _ g => ?_)
    cases v with
    | true => rw [if_pos rfl]; exact isTrue_and_nil (k _ _ h' tk ad' news' q F' R' g)
    | false => rw [if_neg (by simp)]; exact k _ _ h' tk ad' news' q F' R' g
  | e :: e₂ :: rr, es', e', ih, h, q => by
    obtain ⟨a, b, ha, hb, rfl⟩ := comps_cons h
    obtain ⟨a₂, b₂, ha₂, hb₂, rfl⟩ := comps_cons hb
    rw [ands] at q
    · obtain ⟨e'', q', rfl⟩ := Option.map_eq_some_iff.mp q
      have rest := evb_and (pos := pos) (whole := whole) (fun e he => ih e (.tail _ he)) hb q'
      refine fun H Q w m s ad news Qc Ec F R Lo k => ?_
      rw [wT] at w
      refine isTrue_and ((ih e (.head _) _ ha).use w F R Lo fun v H' h' tk ad' news' q F' R' L' g => ?_)
      cases v with
      | true => rw [if_pos rfl]; exact rest.use q F' R' L' fun v H'' h'' tk ad'' news'' q F'' R'' _ g' => k _ _ h'' tk ad'' news'' q F'' R'' (g.trans g')
      | false => rw [if_neg (by simp)]; exact k _ _ h' tk ad' news' q F' R' g
    · intro x; cases x
theorem evb_or {pos : Pos} {whole : Sem Value} : ∀ {es : List Expr} {es' : List E} {e' : E}, (∀ e ∈ es, ∀ e', comp c e = some e' → EvB Z vars h₀ L A l (PySem.isTrue e env (eval e env)) (wT O l e')) → comps c es = some es' → ors es' = some e' →
    EvB Z vars h₀ L A l (PySem.isTrue (.BoolOp .Or es pos) env whole) (wT O l e')
  | [], es', e', _, h, q => by rw [comps] at h; cases h; cases q
  | [e], es', e', ih, h, q => by
    obtain ⟨a, b, ha, hb, rfl⟩ := comps_cons h
    rw [comps] at hb; cases hb
    cases q
    refine fun H Q w m s ad news Qc Ec F R Lo k => isTrue_or ((ih e (.head _) _ ha).use w F R Lo fun v H' h' tk ad' news' q F' R' _ g => ?_)
    cases v with
    | false => rw [if_neg (by simp)]; exact isTrue_or_nil (k _ _ h' tk ad' news' q F' R' g)
    | true => rw [if_pos rfl]; exact k _ _ h' tk ad' news' q F' R' g
  | e :: e₂ :: rr, es', e', ih, h, q => by
    obtain ⟨a, b, ha, hb, rfl⟩ := comps_cons h
    obtain ⟨a₂, b₂, ha₂, hb₂, rfl⟩ := comps_cons hb
    rw [ors] at q
    · obtain ⟨e'', q', rfl⟩ := Option.map_eq_some_iff.mp q
      have rest := evb_or (pos := pos) (whole := whole) (fun e he => ih e (.tail _ he)) hb q'
      refine fun H Q w m s ad news Qc Ec F R Lo k => ?_
      rw [wT] at w
      refine isTrue_or ((ih e (.head _) _ ha).use w F R Lo fun v H' h' tk ad' news' q F' R' L' g => ?_)
      cases v with
      | false => rw [if_neg (by simp)]; exact rest.use q F' R' L' fun v H'' h'' tk ad'' news'' q F'' R'' _ g' => k _ _ h'' tk ad'' news'' q F'' R'' (g.trans g')
      | true => rw [if_pos rfl]; exact k _ _ h' tk ad' news' q F' R' g
    · intro x; cases x
theorem evb_cmp {e₁ e₂ : Expr} {op pos} {whole : Sem Value} {Wa Wb} (hm : behindInMarks op e₂ = false) (ha : EvOk Z vars h₀ L A l (eval e₁ env) Wa) (hb : EvOk Z vars h₀ L A l (eval e₂ env) Wb) :
    EvB Z vars h₀ L A l (PySem.isTrue (.Compare e₁ [op] [e₂] pos) env whole) (fun H Q => Wa H fun x H => Wb H fun y H => match cmpA op x y with | some c => Q c H | none => False) := fun H Q w m s ad news Qc Ec F R Lo k =>
  wpAny_isTrue_Compare1 (ha.use w F R Lo fun v₁ H₁ x h₁ t₁ ad₁ news₁ w₁ F₁ R₁ L₁ g₁ i₁ => hb.use w₁ F₁ R₁ L₁ fun v₂ H₂ y h₂ t₂ ad₂ news₂ w₂ F₂ R₂ L₂ g₂ i₂ => by
    split at w₂
    · rename_i c hc
      exact cmp_ok hc (g₂.is i₁) i₂ (wpAny_truthy_bool (k _ _ h₂ t₂ ad₂ news₂ w₂ F₂ R₂ (g₁.trans g₂)))
    · exact w₂.elim) hm
theorem evb_chain {e₁ e₂ e₃ : Expr} {op₁ op₂ pos} {whole : Sem Value} {Wa Wb Wd'} (hm : lastMarks [op₁, op₂] [e₂, e₃] = false) (ha : EvOk Z vars h₀ L A l (eval e₁ env) Wa) (hb : EvOk Z vars h₀ L A l (eval e₂ env) Wb) (hc : EvOk Z vars h₀ L A l (eval e₃ env) Wd') :
    EvB Z vars h₀ L A l (PySem.isTrue (.Compare e₁ [op₁, op₂] [e₂, e₃] pos) env whole) (fun H Q => Wa H fun x H => Wb H fun y H => match cmpA op₁ x y with
      | some true => Wd' H fun z H => (match cmpA op₂ y z with | some c => Q c H | none => False)
      | some false => Q false H
      | none => False) := fun H Q w m s ad news Qc Ec F R Lo k =>
  isTrue_chain (ha.use w F R Lo fun v₁ H₁ x h₁ t₁ ad₁ news₁ w₁ F₁ R₁ L₁ g₁ i₁ => test_link (hb.use w₁ F₁ R₁ L₁ fun v₂ H₂ y h₂ t₂ ad₂ news₂ w₂ F₂ R₂ L₂ g₂ i₂ => by
    split at w₂
    · rename_i hq
      exact cmp_ok hq (g₂.is i₁) i₂ (wpAny_truthy_bool (test_last (hc.use w₂ F₂ R₂ L₂ fun v₃ H₃ z h₃ t₃ ad₃ news₃ w₃ F₃ R₃ L₃ g₃ i₃ => by
        split at w₃
        · rename_i c hc
          exact cmp_ok hc (g₃.is i₂) i₃ (wpAny_truthy_bool (k _ _ h₃ t₃ ad₃ news₃ w₃ F₃ R₃ ((g₁.trans g₂).trans g₃)))
        · exact w₃.elim)))
    · rename_i hq
      exact cmp_ok hq (g₂.is i₁) i₂ (wpAny_truthy_bool (k _ _ h₂ t₂ ad₂ news₂ w₂ F₂ R₂ (g₁.trans g₂)))
    · exact w₂.elim)) hm

/-- the test of an E that is no not, and, or -/
noncomputable def plainE : E → Bool
  | .not _ | .and _ _ | .or _ _ => false
  | _ => true
theorem wT_plain {e : E} (h : plainE e = true) {H : Hp} {Q : Bool → Hp → Prop} (w : wT O l e H Q) : wE O l e H fun x H => match truthA x with | some c => Q c H | none => False := by
  cases e <;> first | exact w | cases h
theorem callOf_plain {g : Option G} {as : List E} {e : E} (h : callOf g as = some e) : plainE e = true := by
  unfold callOf at h
  split at h <;> cases h <;> rfl
theorem name_plain {x : Str} {e : E} (h : c.name x = some e) : plainE e = true := by
  unfold Cx.name at h
  split at h
  · cases h
  split at h
  · refine msome h ?_; clear h; rintro n _ rfl; rfl
  · split at h
    · cases h; rfl
    · cases h
  · cases h

theorem test_plain (B : Fm Z O c r h₀ L A env) {e : Expr} {e' : E} (he : comp c e = some e') (hp : plainE e' = true) (hr : PySem.isTrue e env (eval e env) = (do let v ← eval e env; standAt e.pos; holding [v] (truthy v))) : EvB Z c.vars h₀ L A l (PySem.isTrue e env (eval e env)) (wT O l e') :=
  (evb_plain hr (eval_ok B he)).ofEq fun H Q w => wT_plain hp w
theorem test_mem {n : Nat} (ih : ∀ (e : Expr), sizeOf e < n → ∀ e', comp c e = some e' → EvB Z c.vars h₀ L A l (PySem.isTrue e env (eval e env)) (wT O l e')) {es : List Expr} (hs : sizeOf es < n + 1) : ∀ e ∈ es, ∀ e', comp c e = some e' → EvB Z c.vars h₀ L A l (PySem.isTrue e env (eval e env)) (wT O l e') :=
  fun e hm e' => ih e (by have := sizeOf_mem hm; omega) e'
theorem test_cmp (B : Fm Z O c r h₀ L A env) {e : Expr} {ops : List CmpOp} {es : List Expr} {pos : Pos} {a e' : E} {bs : List E} {whole : Sem Value} (ha : comp c e = some a) (hb : comps c es = some bs) (he : cmpE ops es a bs = some e') : EvB Z c.vars h₀ L A l (PySem.isTrue (.Compare e ops es pos) env whole) (wT O l e') := by
  rcases cmpE_some he with ⟨op, b, rfl, rfl, hm, rfl⟩ | ⟨o₁, o₂, b₁, b₂, rfl, rfl, hm, rfl⟩
  · obtain ⟨r, rfl, hb'⟩ := comps1 hb
    refine (evb_cmp (by simpa using hm) (eval_ok B ha) (eval_ok B hb')).ofEq fun H Q w => ?_
    have w := wT_plain rfl w
    rw [wE] at w
    refine cast (congrArg (wE O l a H) (funext fun x => funext fun H => congrArg (wE O l b H) (funext fun y => funext fun H => ?_))) w
    cases cmpA _ x y <;> rfl
  · obtain ⟨r, r', rfl, hb', hd⟩ := comps2 hb
    refine (evb_chain hm (eval_ok B ha) (eval_ok B hb') (eval_ok B hd)).ofEq fun H Q w => ?_
    have w := wT_plain rfl w
    rw [wE] at w
    refine cast (congrArg (wE O l a H) (funext fun x => funext fun H => congrArg (wE O l b₁ H) (funext fun y => funext fun H => ?_))) w
    cases cmpA _ x y with
    | none => rfl
    | some q =>
      cases q
      · rfl
      · refine congrArg (wE O l b₂ H) (funext fun z => funext fun H => ?_)
        cases cmpA _ y z <;> rfl
theorem test_sound (B : Fm Z O c r h₀ L A env) : ∀ n (e : Expr), sizeOf e < n → ∀ e', comp c e = some e' → EvB Z c.vars h₀ L A l (PySem.isTrue e env (eval e env)) (wT O l e') := by
  intro n
  induction n with
  | zero => intro e h; exact absurd h (Nat.not_lt_zero _)
  | succ n ih =>
    intro e hsz e' he
    have he0 := he
    unfold comp at he
    split at he
    · refine msome he ?_; clear he; rintro v hv rfl
      exact test_plain B he0 rfl (by cases (‹Const› : Const) <;> first | rfl | cases hv)
    · exact test_plain B he0 (name_plain he) rfl
    · split at he
      · split at he
        · refine bsome he ?_; clear he; intro a ha he
          refine bsome he ?_; clear he; intro b hb he
          refine bsome he ?_; clear he; intro d hd he
          refine bsome he ?_; clear he; intro f hf he
          cases he
          exact test_plain B he0 rfl rfl
        · cases he
      · refine bsome he ?_; clear he; intro a ha he
        refine bsome he ?_; clear he; intro b hb he
        cases he
        exact test_plain B he0 rfl rfl
    · refine bsome he ?_; clear he; intro a ha he
      unfold unE at he
      split at he
      · cases he; exact test_plain B he0 rfl rfl
      · cases he; exact test_plain B he0 rfl rfl
      · cases he
        intro H Q w m s ad news Qc Ec F R Lo k
        rw [wT] at w
        exact isTrue_not ((ih _ (by simp at hsz; omega) a ha).use w F R Lo fun v H' h' tk ad' news' q F' R' _ g => k _ _ h' tk ad' news' q F' R' g)
      · cases he
    · refine bsome he ?_; clear he; intro a ha he
      refine bsome he ?_; clear he; intro bs hb he
      exact test_cmp B ha hb he
    · refine bsome he ?_; clear he; intro es' hes he
      split at he
      · exact evb_and (test_mem ih (by simp at hsz; omega)) hes he
      · exact evb_or (test_mem ih (by simp at hsz; omega)) hes he
    · split at he
      · split at he
        · split at he
          · refine bsome he ?_; clear he; intro a ha he
            refine bsome he ?_; clear he; intro es hd he
            obtain ⟨d, rfl, rfl⟩ := oneApp_some he
            exact test_plain B he0 rfl rfl
          · cases he
        · split at he
          · refine bsome he ?_; clear he; intro es' hes he
            exact test_plain B he0 (callOf_plain he) rfl
          · cases he
        · cases he
      · cases he
    · split at he
      · refine bsome he ?_; clear he; intro a ha he
        refine bsome he ?_; clear he; intro k hk he
        cases he
        exact test_plain B he0 rfl rfl
      · cases he
    · split at he
      · split at he
        · refine bsome he ?_; clear he; intro a ha he
          cases he
          exact test_plain B he0 rfl rfl
        · refine bsome he ?_; clear he; intro a ha he
          refine bsome he ?_; clear he; intro b hb he
          cases he
          exact test_plain B he0 rfl rfl
      · cases he
    · split at he
      · refine bsome he ?_; clear he; intro es' hes he
        cases he
        exact test_plain B he0 rfl rfl
      · cases he
    · split at he
      · refine bsome he ?_; clear he; intro es' hes he
        cases he
        exact test_plain B he0 rfl rfl
      · cases he
    · cases he
theorem test_ok (B : Fm Z O c r h₀ L A env) {e : Expr} {e' : E} (he : comp c e = some e') : EvB Z c.vars h₀ L A l (PySem.isTrue e env (eval e env)) (wT O l e') := test_sound B _ e (Nat.lt_succ_self _) e' he
end
end Mine

namespace Mine

inductive AFl where
  | next | brk | cont | ret (v : AV)
noncomputable abbrev Cont := AFl → List AV → Hp → Prop
noncomputable abbrev Tr := List AV → Hp → Cont → Prop

inductive S where
  | assign (n : Nat) (e : E) | assign2 (n₁ n₂ : Nat) (e₁ e₂ : E) | assign3 (n₁ n₂ n₃ : Nat) (e₁ e₂ e₃ : E)
  | attrSet (o : E) (n : Nat) (e : E) | subSet (o i e : E)
  | augN (n : Nat) (op : Operator) (e : E) | augA (o : E) (n : Nat) (op : Operator) (e : E) | augS (o i : E) (op : Operator) (e : E)
  | expr (e : E) | ret (e : E) | fail
  | ife (t : E) (a b : List S) | loop (t : E) (b : List S)
  | forR (n : Nat) (as : List E) (b : List S) | forV (n : Nat) (e : E) (b : List S)

noncomputable def Cx.loc (c : Cx) (x : Str) : Option Nat := match c.scope.names.lookup x with
  | some .local => c.vars.findIdx? (· == x)
  | _ => none
noncomputable def Cx.isRange (c : Cx) : Expr → Option (List Expr)
  | .Call (.Name y _) as [] _ => (match c.glob y with | some .rng => if as.all noStar && !as.isEmpty then some as else none | _ => none)
  | _ => none
noncomputable def tup2 (c : Cx) (p q : Pos) (x y : Str) (a b : Expr) : Bool :=
  q.line == p.line && (c.scope.names.lookup x == some .local) && (c.scope.names.lookup y == some .local) && (x != y) && noStar a && noStar b && !([a, b].all (foldedForSure 8)) && !([a, b].all (constantsAlone 8))
noncomputable def tup3 (c : Cx) (p q r : Pos) (x y z : Str) (a b d : Expr) : Bool :=
  q.line == p.line && r.line == p.line && (c.scope.names.lookup x == some .local) && (c.scope.names.lookup y == some .local) && (c.scope.names.lookup z == some .local) && (x != y) && (x != z) && (y != z) && noStar a && noStar b && noStar d &&
    !([a, b, d].all (foldedForSure 8)) && !([a, b, d].all (constantsAlone 8))

noncomputable def nameE : Expr → Option (Str × Pos)
  | .Name x p => some (x, p)
  | _ => none
theorem nameE_some {e : Expr} {x : Str × Pos} (h : nameE e = some x) : e = .Name x.1 x.2 := by
  unfold nameE at h
  split at h
  · cases h; rfl
  · cases h
noncomputable def compTup (c : Cx) (ts vs : List Expr) : Option S := match ts with
  | [s, t] => (match vs with
    | [a, b] => (nameE s).bind fun x => (nameE t).bind fun y => if tup2 c x.2 y.2 x.1 y.1 a b then (c.loc x.1).bind fun n₁ => (c.loc y.1).bind fun n₂ => (comp c a).bind fun a => (comp c b).bind fun b => some (.assign2 n₁ n₂ a b) else none
    | _ => none)
  | [s, t, u] => (match vs with
    | [a, b, d] => (nameE s).bind fun x => (nameE t).bind fun y => (nameE u).bind fun z => if tup3 c x.2 y.2 z.2 x.1 y.1 z.1 a b d then (c.loc x.1).bind fun n₁ => (c.loc y.1).bind fun n₂ => (c.loc z.1).bind fun n₃ => (comp c a).bind fun a => (comp c b).bind fun b => (comp c d).bind fun d => some (.assign3 n₁ n₂ n₃ a b d) else none
    | _ => none)
  | _ => none
noncomputable def tupE : Expr → Option (List Expr × Nat × Pos)
  | .Tuple vs k p => some (vs, k, p)
  | _ => none
theorem tupE_some {e : Expr} {x : List Expr × Nat × Pos} (h : tupE e = some x) : e = .Tuple x.1 x.2.1 x.2.2 := by
  unfold tupE at h
  split at h
  · cases h; rfl
  · cases h
noncomputable def compAsg (c : Cx) (t v : Expr) : Option S := match t with
  | .Name x _ => (c.loc x).bind fun n => (comp c v).bind fun e => some (.assign n e)
  | .Attribute o x _ => (comp c o).bind fun o => (c.attr x).bind fun n => (comp c v).bind fun e => some (.attrSet o n e)
  | .Subscript o i _ => if noSlice i then (comp c o).bind fun o => (comp c i).bind fun i => (comp c v).bind fun e => some (.subSet o i e) else none
  | .Tuple ts _ _ => (tupE v).bind fun q => compTup c ts q.1
  | _ => none
noncomputable def compAug (c : Cx) (t : Expr) (op : Operator) (v : Expr) : Option S := match t with
  | .Name x _ => (c.loc x).bind fun n => (comp c v).bind fun e => some (.augN n op e)
  | .Attribute o x _ => (comp c o).bind fun o => (c.attr x).bind fun n => (comp c v).bind fun e => some (.augA o n op e)
  | .Subscript o i _ => if noSlice i then (comp c o).bind fun o => (comp c i).bind fun i => (comp c v).bind fun e => some (.augS o i op e) else none
  | _ => none
noncomputable def oneE (ts : List Expr) : Option Expr := match ts with
  | [t] => some t
  | _ => none
theorem oneE_some {ts : List Expr} {t : Expr} (h : oneE ts = some t) : ts = [t] := by
  unfold oneE at h
  split at h
  · cases h; rfl
  · cases h

mutual
noncomputable def compS (c : Cx) : Stmt → Option S
  | .Assign ts v _ => (oneE ts).bind fun t => compAsg c t v
  | .AugAssign t op v _ => compAug c t op v
  | .Expr v _ => (comp c v).bind fun e => some (.expr e)
  | .Return v _ => v.bind fun v => (comp c v).bind fun e => some (.ret e)
  | .Raise _ _ _ => some .fail
  | .If t a b _ => (comp c t).bind fun t => (compSs c a).bind fun a => (compSs c b).bind fun b => some (.ife t a b)
  | .While t b e _ => if e.isEmpty then (comp c t).bind fun t => (compSs c b).bind fun b => some (.loop t b) else none
  | .For t it b e _ => (nameE t).bind fun x => if e.isEmpty then (c.loc x.1).bind fun n => match c.isRange it with
      | some as => (comps c as).bind fun as => (compSs c b).bind fun b => some (.forR n as b)
      | none => (comp c it).bind fun e => (compSs c b).bind fun b => some (.forV n e b)
      else none
  | _ => none
noncomputable def compSs (c : Cx) : List Stmt → Option (List S)
  | [] => some []
  | s :: r => (compS c s).bind fun a => (compSs c r).bind fun b => some (a :: b)
end

noncomputable def wWh (T : List AV → Hp → (Bool → Hp → Prop) → Prop) (B : Tr) : Nat → Tr
  | 0, _, _, _ => False
  | n + 1, l, H, Q => T l H fun c H => match c with
      | true => B l H fun fl l H => (match fl with | .next => wWh T B n l H Q | .cont => wWh T B n l H Q | .brk => Q .next l H | .ret v => Q (.ret v) l H)
      | false => Q .next l H
noncomputable def wFor (G : Hp → Prop) (B : Tr) (x : Nat) : List AV → Tr
  | [], l, H, Q => G H ∧ Q .next l H
  | v :: r, l, H, Q => G H ∧ B (lset l x v) H fun fl l H => match fl with | .next => wFor G B x r l H Q | .cont => wFor G B x r l H Q | .brk => Q .next l H | .ret v => Q (.ret v) l H
noncomputable def rangeVals (a b c : Int) : List AV := (List.range (Builtin.Range.rangeSize a b c).toNat).map fun (i : Nat) => .int (a + (i : Int) * c)
noncomputable def rangeOk (a b c : Int) : Prop := a.natAbs < 1000 ∧ b.natAbs < 1000 ∧ (c = 1 ∨ c = -1)
noncomputable def wIter (B : Tr) (x : Nat) (v : AV) : Tr := fun l H Q => match v with
  | .ref k => (match H[k]? with
      | some (.list vs) => wFor (fun H => H[k]? = some (.list vs)) B x vs l H Q
      | some (.tup vs) => wFor (fun H => H[k]? = some (.tup vs)) B x vs l H Q
      | some (.range a b c) => rangeOk a b c ∧ wFor (fun _ => True) B x (rangeVals a b c) l H Q
      | _ => False)
  | _ => False

mutual
noncomputable def wS (O : Orc) : S → Tr
  | .assign n e => fun l H Q => wE O l e H fun v H => Q .next (lset l n v) H
  | .assign2 n₁ n₂ e₁ e₂ => fun l H Q => wE O l e₁ H fun v₁ H => wE O l e₂ H fun v₂ H => Q .next (lset (lset l n₂ v₂) n₁ v₁) H
  | .assign3 n₁ n₂ n₃ e₁ e₂ e₃ => fun l H Q => wE O l e₁ H fun v₁ H => wE O l e₂ H fun v₂ H => wE O l e₃ H fun v₃ H => Q .next (lset (lset (lset l n₃ v₃) n₂ v₂) n₁ v₁) H
  | .attrSet o n e => fun l H Q => wE O l e H fun v H => wE O l o H fun ov H => wSetA ov n v H fun H => Q .next l H
  | .subSet o i e => fun l H Q => wE O l e H fun v H => wE O l o H fun ov H => wE O l i H fun iv H => wSetI ov iv v H fun H => Q .next l H
  | .augN n op e => fun l H Q => wVar l n fun old => wE O l e H fun v H => (match old, v with | .int x, .int y => binI op x y fun r => Q .next (lset l n (.int r)) H | _, _ => False)
  | .augA o n op e => fun l H Q => wE O l o H fun ov H => wGetA ov n H fun old => wE O l e H fun v H => (match old, v with | .int x, .int y => binI op x y fun r => wSetA ov n (.int r) H fun H => Q .next l H | _, _ => False)
  | .augS o i op e => fun l H Q => wE O l o H fun ov H => wE O l i H fun iv H => wGetI ov iv H fun old => wE O l e H fun v H => (match old, v with | .int x, .int y => binI op x y fun r => wSetI ov iv (.int r) H fun H => Q .next l H | _, _ => False)
  | .expr e => fun l H Q => wE O l e H fun _ H => Q .next l H
  | .ret e => fun l H Q => wE O l e H fun v H => Q (.ret v) l H
  | .fail => fun _ _ _ => False
  | .ife t a b => fun l H Q => wT O l t H fun c H => (match c with | true => wSs O a l H Q | false => wSs O b l H Q)
  | .loop t b => fun l H Q => ∃ n, wWh (fun l H Q => wT O l t H Q) (wSs O b) n l H Q
  | .forR x as b => fun l H Q => wEs O l as H fun vs H => (match rangeA vs with | some (a, d, c) => rangeOk a d c ∧ wFor (fun _ => True) (wSs O b) x (rangeVals a d c) l H Q | none => False)
  | .forV x e b => fun l H Q => wE O l e H fun v H => wIter (wSs O b) x v l H Q
noncomputable def wSs (O : Orc) : List S → Tr
  | [] => fun l H Q => Q .next l H
  | s :: r => fun l H Q => wS O s l H fun fl l H => match fl with
      | .next => wSs O r l H Q
      | fl => Q fl l H
end

noncomputable def FlIs (ad : List Addr) : AFl → Flow → Prop
  | .next, f => f = .next
  | .brk, f => f = .brk
  | .cont, f => f = .cont
  | .ret v, f => ∃ v', f = .ret v' ∧ Is ad v v'

noncomputable abbrev KontS (Z : Wd) (vars : List Str) (h₀ : Heap) (L : Addr) (s : Shared) (ad : List Addr) (news : List (Addr × Obj)) (Q : Cont) (Qc : Flow → Shared → Prop) : Prop :=
  ∀ fl l' H' fl' m' h' tk ad' news', Q fl l' H' → Fr h₀ L h' m' → Rp Z h₀ L h' ad' news' H' → LocOk vars ad' l' m' → Gr ad news ad' news' → FlIs ad' fl fl' → Qc fl' { s with heap := h', toks := tk }
noncomputable def ExOk (Z : Wd) (vars : List Str) (h₀ : Heap) (L : Addr) (A : Around) (ex : Sem Flow) (W : Tr) : Prop :=
  ∀ l H Q, W l H Q → ∀ m s ad news (Qc : Flow → Shared → Prop) Ec, Fr h₀ L s.heap m → Rp Z h₀ L s.heap ad news H → LocOk vars ad l m → KontS Z vars h₀ L s ad news Q Qc → wpAny (model Z.prog Z.w) A ex Qc Ec s

section
variable {Z : Wd} {vars : List Str} {h₀ : Heap} {L : Addr} {A : Around} {O : Orc} {c : Cx} {r : Nat} {env : Env}

theorem ex_nil : ExOk Z vars h₀ L A (execs [] env) (fun l H Q => Q .next l H) := fun l H Q w m s ad news Qc Ec F R Lo k => wpAny_execs_nil (k _ _ _ _ m s.heap s.toks ad news w F R Lo .refl rfl)
theorem ex_cons {st : Stmt} {rest : List Stmt} {Wa Wb : Tr} (ha : ExOk Z vars h₀ L A (exec st env) Wa) (hb : ExOk Z vars h₀ L A (execs rest env) Wb) :
    ExOk Z vars h₀ L A (execs (st :: rest) env) (fun l H Q => Wa l H fun fl l H => match fl with | .next => Wb l H Q | fl => Q fl l H) := fun l H Q w m s ad news Qc Ec F R Lo k =>
  wpAny_execs_cons (ha l H _ w m s ad news _ Ec F R Lo fun fl l' H' fl' m' h' tk ad' news' q F' R' L' g i => by
    cases fl with
    | next =>
      cases (i : fl' = _)
      exact hb l' H' Q q m' _ ad' news' Qc Ec F' R' L' fun fl l'' H'' fl' m'' h'' tk ad'' news'' q F'' R'' L'' g' i => k _ _ _ _ _ h'' tk ad'' news'' q F'' R'' L'' (g.trans g') i
    | brk => cases (i : fl' = _); exact k _ _ _ _ m' h' tk ad' news' q F' R' L' g rfl
    | cont => cases (i : fl' = _); exact k _ _ _ _ m' h' tk ad' news' q F' R' L' g rfl
    | ret v => obtain ⟨v', rfl, j⟩ := i; exact k _ _ _ _ m' h' tk ad' news' q F' R' L' g ⟨v', rfl, j⟩)

theorem noSwap {v : Expr} {e : E} (h : comp c v = some e) (t : Option Expr) (n : Nat) : swapsWith v t n env = pure false := by
  cases v <;> first | rfl | (cases (show (none : Option E) = some e from h))
theorem loc_some {c : Cx} {x : Str} {n : Nat} (h : c.loc x = some n) : c.scope.names.lookup x = some .local ∧ c.vars[n]? = some x := by
  unfold Cx.loc at h
  split at h
  · rename_i hk; exact ⟨hk, findIdx_name h⟩
  · cases h

theorem store_ok (B : Fm Z O c r h₀ L A env) {x : Str} {n : Nat} {v : AV} {v' : Value} {l : List AV} {m s ad news H} {Qc : Unit → Shared → Prop} {Ec : Value → Shared → Prop} (hx : c.loc x = some n) (i : Is ad v v') (F : Fr h₀ L s.heap m) (R : Rp Z h₀ L s.heap ad news H) (Lo : LocOk c.vars ad l m)
    (k : ∀ m' h', Fr h₀ L h' m' → Rp Z h₀ L h' ad news H → LocOk c.vars ad (lset l n v) m' → Qc () { s with heap := h', toks := s.toks + 1 }) : wpAny (model Z.prog Z.w) A (storeName env x v') Qc Ec s := by
  obtain ⟨qual, fa, cdv, rfl⟩ := B.en
  obtain ⟨hk, hv⟩ := loc_some hx
  exact storeX_L (cl := []) F R.nw (fun h' F' N' => k _ h' F' (R.same N') (Lo.set B.nd hv i)) B.kd hk

theorem ex_assign (B : Fm Z O c r h₀ L A env) {x : Str} {n : Nat} {v : Expr} {p pos : Pos} {e : E} (hx : c.loc x = some n) (he : comp c v = some e) :
    ExOk Z c.vars h₀ L A (exec (.Assign [.Name x p] v pos) env) (fun l H Q => wE O l e H fun v H => Q .next (lset l n v) H) := fun l H Q w m s ad news Qc Ec F R Lo k =>
  wpAny_Assign_Name ((eval_ok B he).use w F R Lo fun v₁ H₁ x h₁ t₁ ad₁ news₁ w₁ F₁ R₁ L₁ g₁ i₁ =>
    store_ok B hx i₁ F₁ R₁ L₁ fun m' h' F' R' L' => k _ _ _ _ m' h' (t₁ + 1) ad₁ news₁ w₁ F' R' L' g₁ rfl) (noSwap he _ _)
theorem ex_attrSet (B : Fm Z O c r h₀ L A env) {x : Str} {n : Nat} {o v : Expr} {p pos : Pos} {eo e : E} (hx : c.attr x = some n) (ho : comp c o = some eo) (he : comp c v = some e) :
    ExOk Z c.vars h₀ L A (exec (.Assign [.Attribute o x p] v pos) env) (fun l H Q => wE O l e H fun v H => wE O l eo H fun ov H => wSetA ov n v H fun H => Q .next l H) := fun l H Q w m s ad news Qc Ec F R Lo k =>
  plainObj_wpAny_Assign_Attribute ((eval_ok B he).use w F R Lo fun v₁ H₁ x h₁ t₁ ad₁ news₁ w₁ F₁ R₁ L₁ g₁ i₁ => (eval_ok B ho).use w₁ F₁ R₁ L₁ fun v₂ H₂ y h₂ t₂ ad₂ news₂ w₂ F₂ R₂ L₂ g₂ i₂ =>
    setA_ok B.X (attr_name B hx) w₂ F₂ R₂ i₂ (g₂.is i₁) fun H' h' tk ad' news' q F' R' g => k _ _ _ _ m h' tk ad' news' q F' R' (L₂.mono g) ((g₁.trans g₂).trans g) rfl) (noSwap he _ _)
theorem ex_subSet (B : Fm Z O c r h₀ L A env) {o i v : Expr} {p pos : Pos} {eo ei e : E} (ho : comp c o = some eo) (hi : comp c i = some ei) (he : comp c v = some e) :
    ExOk Z c.vars h₀ L A (exec (.Assign [.Subscript o i p] v pos) env) (fun l H Q => wE O l e H fun v H => wE O l eo H fun ov H => wE O l ei H fun iv H => wSetI ov iv v H fun H => Q .next l H) := fun l H Q w m s ad news Qc Ec F R Lo k =>
  wpAny_Assign_Subscript ((eval_ok B he).use w F R Lo fun v₁ H₁ x h₁ t₁ ad₁ news₁ w₁ F₁ R₁ L₁ g₁ i₁ => (eval_ok B ho).use w₁ F₁ R₁ L₁ fun v₂ H₂ y h₂ t₂ ad₂ news₂ w₂ F₂ R₂ L₂ g₂ i₂ =>
    (eval_ok B hi).use w₂ F₂ R₂ L₂ fun v₃ H₃ z h₃ t₃ ad₃ news₃ w₃ F₃ R₃ L₃ g₃ i₃ =>
    setI_ok w₃ F₃ R₃ (g₃.is i₂) i₃ ((g₂.trans g₃).is i₁) fun H' h' tk ad' news' q F' R' g => k _ _ _ _ m h' tk ad' news' q F' R' (L₃.mono g) (((g₁.trans g₂).trans g₃).trans g) rfl) (noSwap he _ _)
theorem ex_augN (B : Fm Z O c r h₀ L A env) {x : Str} {n : Nat} {v : Expr} {op : Operator} {p pos : Pos} {e : E} (hx : c.loc x = some n) (he : comp c v = some e) :
    ExOk Z c.vars h₀ L A (exec (.AugAssign (.Name x p) op v pos) env) (fun l H Q => wVar l n fun old => wE O l e H fun v H => (match old, v with | .int x, .int y => binI op x y fun r => Q .next (lset l n (.int r)) H | _, _ => False)) := fun l H Q w m s ad news Qc Ec F R Lo k => by
  obtain ⟨hk, hv⟩ := loc_some hx
  obtain ⟨hu, w⟩ := wVar_elim w
  obtain ⟨v', hm, i⟩ := lget_some Lo hv rfl hu
  refine wpAny_AugAssign_Name ?_
  have ld : ∀ {Q : Value → Shared → Prop}, Q v' s → wpAny (model Z.prog Z.w) A (loadName env x) Q Ec s := by
    intro Q q
    obtain ⟨qual, fa, cdv, rfl⟩ := B.en
    exact wpAny_loadName_local B.kd hk F.ns hm q
  refine ld ((eval_ok B he).use w F R Lo fun v₁ H₁ y h₁ t₁ ad₁ news₁ w₁ F₁ R₁ L₁ g₁ i₁ => ?_)
  split at w₁
  · rename_i x₀ y₀ _ hl
    rw [hl] at i
    obtain ⟨t, rfl⟩ := g₁.is i
    obtain ⟨u, rfl⟩ := i₁
    exact (bin_int (H := H₁) (Q := fun v H => Q .next (lset l n v) H) w₁ F₁ R₁ fun v₂ H₂ z h₂ t₂ ad₂ news₂ w₂ F₂ R₂ g₂ i₂ =>
      store_ok B hx i₂ F₂ R₂ (L₁.mono g₂) fun m' h' F' R' L' => k _ _ _ _ m' h' (t₂ + 1) ad₂ news₂ w₂ F' R' L' (g₁.trans g₂) rfl).2
  · exact w₁.elim
theorem ex_augA (B : Fm Z O c r h₀ L A env) {x : Str} {n : Nat} {o v : Expr} {op : Operator} {p pos : Pos} {eo e : E} (hx : c.attr x = some n) (ho : comp c o = some eo) (he : comp c v = some e) :
    ExOk Z c.vars h₀ L A (exec (.AugAssign (.Attribute o x p) op v pos) env) (fun l H Q => wE O l eo H fun ov H => wGetA ov n H fun old => wE O l e H fun v H => (match old, v with | .int x, .int y => binI op x y fun r => wSetA ov n (.int r) H fun H => Q .next l H | _, _ => False)) := fun l H Q w m s ad news Qc Ec F R Lo k =>
  wpAny_AugAssign_AttributeAny ((eval_ok B ho).use w F R Lo fun v₁ H₁ ov h₁ t₁ ad₁ news₁ w₁ F₁ R₁ L₁ g₁ i₁ =>
    getA_ok (Q := fun old H' => wE O l e H' fun v H => (match old, v with | .int x, .int y => binI op x y fun r => wSetA v₁ n (.int r) H fun H => Q .next l H | _, _ => False)) B.X (attr_name B hx) w₁ F₁ R₁ i₁ fun v₂ H₂ old h₂ t₂ ad₂ news₂ w₂ F₂ R₂ g₂ i₂ =>
    (eval_ok B he).use w₂ F₂ R₂ (L₁.mono g₂) fun v₃ H₃ y h₃ t₃ ad₃ news₃ w₃ F₃ R₃ L₃ g₃ i₃ => by
      split at w₃
      · rename_i x₀ y₀
        obtain ⟨t, rfl⟩ := g₃.is i₂
        obtain ⟨u, rfl⟩ := i₃
        refine (bin_int (H := H₃) (Q := fun v H => match v with | .int r => wSetA v₁ n (.int r) H fun H => Q .next l H | _ => False) w₃ F₃ R₃ fun v₄ H₄ z h₄ t₄ ad₄ news₄ w₄ F₄ R₄ g₄ i₄ => ?_).2
        dsimp only at w₄
        split at w₄
        · exact setA_ok B.X (attr_name B hx) w₄ F₄ R₄ (((g₂.trans g₃).trans g₄).is i₁) i₄ fun H' h' tk ad' news' q F' R' g => k _ _ _ _ m h' tk ad' news' q F' R' ((L₃.mono g₄).mono g) ((((g₁.trans g₂).trans g₃).trans g₄).trans g) rfl
        · exact w₄.elim
      · exact w₃.elim)
theorem ex_augS (B : Fm Z O c r h₀ L A env) {o i v : Expr} {op : Operator} {p pos : Pos} {eo ei e : E} (hs : noSlice i = true) (ho : comp c o = some eo) (hi : comp c i = some ei) (he : comp c v = some e) :
    ExOk Z c.vars h₀ L A (exec (.AugAssign (.Subscript o i p) op v pos) env) (fun l H Q => wE O l eo H fun ov H => wE O l ei H fun iv H => wGetI ov iv H fun old => wE O l e H fun v H => (match old, v with | .int x, .int y => binI op x y fun r => wSetI ov iv (.int r) H fun H => Q .next l H | _, _ => False)) := fun l H Q w m s ad news Qc Ec F R Lo k =>
  wpAny_AugAssign_SubscriptAny ((eval_ok B ho).use w F R Lo fun v₁ H₁ ov h₁ t₁ ad₁ news₁ w₁ F₁ R₁ L₁ g₁ i₁ => (eval_ok B hi).use w₁ F₁ R₁ L₁ fun v₀ H₀ iv h₀' t₀ ad₀ news₀ w₀ F₀ R₀ L₀ g₀ i₀ =>
    (getI_core (s := { s with heap := h₀', toks := t₀ }) (Q := fun old H' => wE O l e H' fun v H => (match old, v with | .int x, .int y => binI op x y fun r => wSetI v₁ v₀ (.int r) H fun H => Q .next l H | _, _ => False)) w₀ F₀ R₀ (g₀.is i₁) i₀ fun v₂ H₂ old h₂ t₂ ad₂ news₂ w₂ F₂ R₂ g₂ i₂ =>
    (eval_ok B he).use w₂ F₂ R₂ (L₀.mono g₂) fun v₃ H₃ y h₃ t₃ ad₃ news₃ w₃ F₃ R₃ L₃ g₃ i₃ => by
      split at w₃
      · rename_i x₀ y₀
        obtain ⟨t, rfl⟩ := g₃.is i₂
        obtain ⟨u, rfl⟩ := i₃
        refine (bin_int (H := H₃) (Q := fun v H => match v with | .int r => wSetI v₁ v₀ (.int r) H fun H => Q .next l H | _ => False) w₃ F₃ R₃ fun v₄ H₄ z h₄ t₄ ad₄ news₄ w₄ F₄ R₄ g₄ i₄ => ?_).2
        dsimp only at w₄
        split at w₄
        · exact setI_ok w₄ F₄ R₄ ((((g₀.trans g₂).trans g₃).trans g₄).is i₁) (((g₂.trans g₃).trans g₄).is i₀) i₄ fun H' h' tk ad' news' q F' R' g => k _ _ _ _ m h' tk ad' news' q F' R' ((L₃.mono g₄).mono g) (((((g₁.trans g₀).trans g₂).trans g₃).trans g₄).trans g) rfl
        · exact w₄.elim
      · exact w₃.elim).1) (by intro ov iv new; cases i <;> first | rfl | cases hs)
theorem ex_expr (B : Fm Z O c r h₀ L A env) {v : Expr} {pos : Pos} {e : E} (he : comp c v = some e) : ExOk Z c.vars h₀ L A (exec (.Expr v pos) env) (fun l H Q => wE O l e H fun _ H => Q .next l H) := fun l H Q w m s ad news Qc Ec F R Lo k =>
  wpAny_Expr_any ((eval_ok B he).use w F R Lo fun v₁ H₁ x h₁ t₁ ad₁ news₁ w₁ F₁ R₁ L₁ g₁ i₁ => k _ _ _ _ m h₁ t₁ ad₁ news₁ w₁ F₁ R₁ L₁ g₁ rfl)
    (by obtain ⟨qual, fa, cdv, rfl⟩ := B.en; show (c.scope.kind == .module && _) = false; rw [B.kd]; rfl) (noSwap he _ _)
theorem ex_ret (B : Fm Z O c r h₀ L A env) {v : Expr} {pos : Pos} {e : E} (he : comp c v = some e) : ExOk Z c.vars h₀ L A (exec (.Return (some v) pos) env) (fun l H Q => wE O l e H fun v H => Q (.ret v) l H) := fun l H Q w m s ad news Qc Ec F R Lo k =>
  wpAny_Return_some ((eval_ok B he).use w F R Lo fun v₁ H₁ x h₁ t₁ ad₁ news₁ w₁ F₁ R₁ L₁ g₁ i₁ => k _ _ _ _ m h₁ t₁ ad₁ news₁ w₁ F₁ R₁ L₁ g₁ ⟨_, rfl, i₁⟩)
theorem ex_if (B : Fm Z O c r h₀ L A env) {t : Expr} {a b : List Stmt} {pos : Pos} {e : E} {Wa Wb : Tr} (he : comp c t = some e) (ha : ExOk Z c.vars h₀ L A (execs a env) Wa) (hb : ExOk Z c.vars h₀ L A (execs b env) Wb) :
    ExOk Z c.vars h₀ L A (exec (.If t a b pos) env) (fun l H Q => wT O l e H fun c H => (match c with | true => Wa l H Q | false => Wb l H Q)) := fun l H Q w m s ad news Qc Ec F R Lo k =>
  wpAny_If ((test_ok B he).use w F R Lo fun v₁ H₁ h₁ t₁ ad₁ news₁ w₁ F₁ R₁ L₁ g₁ => by
    cases v₁ with
    | true =>
      rw [if_pos rfl]
      exact ha l H₁ Q w₁ m _ ad₁ news₁ Qc Ec F₁ R₁ L₁ fun fl l' H' fl' m' h' tk ad' news' q F' R' L' g i => k _ _ _ _ _ h' tk ad' news' q F' R' L' (g₁.trans g) i
    | false =>
      rw [if_neg (by simp)]
      exact hb l H₁ Q w₁ m _ ad₁ news₁ Qc Ec F₁ R₁ L₁ fun fl l' H' fl' m' h' tk ad' news' q F' R' L' g i => k _ _ _ _ _ h' tk ad' news' q F' R' L' (g₁.trans g) i)
theorem ex_while (B : Fm Z O c r h₀ L A env) {t : Expr} {b : List Stmt} {pos : Pos} {e : E} {Wb : Tr} (he : comp c t = some e) (hb : ExOk Z c.vars h₀ L A (execs b env) Wb) :
    ExOk Z c.vars h₀ L A (exec (.While t b [] pos) env) (fun l H Q => ∃ n, wWh (fun l H Q => wT O l e H Q) Wb n l H Q) := fun l H Q w m s ad news Qc Ec F R Lo k => by
  obtain ⟨n, w⟩ := w
  refine wpAny_While (codeAny_whileLoop (fun n s' => ∃ l' H' m' h' tk ad' news', s' = { s with heap := h', toks := tk } ∧ wWh (fun l H Q => wT O l e H Q) Wb n l' H' Q ∧ Fr h₀ L h' m' ∧ Rp Z h₀ L h' ad' news' H' ∧ LocOk c.vars ad' l' m' ∧ Gr ad news ad' news') ?_ n
    ⟨l, H, m, s.heap, s.toks, ad, news, rfl, w, F, R, Lo, .refl⟩)
  rintro n s' ⟨l', H', m', h', tk, ad', news', rfl, w, F', R', L', g⟩
  cases n with
  | zero => exact w.elim
  | succ n =>
    rw [wWh] at w
    refine (test_ok B he).use w F' R' L' fun v₁ H₁ h₁ t₁ ad₁ news₁ w₁ F₁ R₁ L₁ g₁ => ?_
    cases v₁ with
    | true =>
      rw [if_pos rfl]
      refine hb l' H₁ _ w₁ m' _ ad₁ news₁ _ _ F₁ R₁ L₁ fun fl l₂ H₂ fl' m₂ h₂ t₂ ad₂ news₂ q F₂ R₂ L₂ g₂ i => ?_
      have gg := (g.trans g₁).trans g₂
      cases fl with
      | next => cases (i : fl' = _); exact ⟨n, Nat.lt_succ_self _, l₂, H₂, m₂, h₂, t₂, ad₂, news₂, rfl, q, F₂, R₂, L₂, gg⟩
      | cont => cases (i : fl' = _); exact ⟨n, Nat.lt_succ_self _, l₂, H₂, m₂, h₂, t₂, ad₂, news₂, rfl, q, F₂, R₂, L₂, gg⟩
      | brk => cases (i : fl' = _); exact k _ _ _ _ m₂ h₂ t₂ ad₂ news₂ q F₂ R₂ L₂ gg rfl
      | ret v => obtain ⟨v', rfl, j⟩ := i; exact k _ _ _ _ m₂ h₂ t₂ ad₂ news₂ q F₂ R₂ L₂ gg ⟨v', rfl, j⟩
    | false =>
      rw [if_neg (by simp)]
      exact wpAny_execs_nil (k _ _ _ _ m' h₁ t₁ ad₁ news₁ w₁ F₁ R₁ L₁ (g.trans g₁) rfl)
end
end Mine

namespace Mine
section
variable {Z : Wd} {vars : List Str} {h₀ : Heap} {L : Addr} {A : Around} {O : Orc} {c : Cx} {r : Nat} {env : Env}

theorem fr_ext {h h' : Heap} {I : Addr} {m : Str → Option Value} (F : Fr h₀ L h m) (e : Heap.ExtBut I h h') (hL : I ≠ L) (h0 : h₀.get? I = none) : Fr h₀ L h' m := by
  obtain ⟨oL, es, ep, hLg, q⟩ := F.ns
  exact ⟨⟨oL, es, ep, e L oL (Ne.symm hL) hLg, q⟩, fun b o hb => e b o (fun z => by rw [z, h0] at hb; cases hb) (F.keep b o hb), F.above⟩

/-- a loop over an iterator at I; itok i: its object before the i-th item -/
theorem loop_core (B : Fm Z O c r h₀ L A env) {x : Str} {px : Pos} {n : Nat} {body : List Stmt} {Wb : Tr} (hx : c.loc x = some n) (hb : ExOk Z c.vars h₀ L A (execs body env) Wb) (vals : List AV) (G : Hp → Prop) (I : Addr) (itok : Nat → Obj → Prop)
    {s : Shared} {ad : List Addr} {news : List (Addr × Obj)} {H : Hp} {l : List AV} {m : Str → Option Value} {Q : Cont} {R' : Result → Shared → Prop} {h1 : Heap} {O₁ : Obj} {tk1 : Nat}
    (fresh : ∀ p ∈ news, p.1 ≠ I)
    (item : ∀ (i : Nat) (v : AV) (h : Heap) (tk : Nat) (ad' : List Addr) (news' : List (Addr × Obj)) (H' : Hp) (Oi : Obj) (Qn : Option Value → Shared → Prop) (En : Value → Shared → Prop), vals[i]? = some v → itok i Oi → h.get? I = some Oi → Rp Z h₀ L h ad' news' H' → Gr ad news ad' news' → G H' →
      (∀ v' h' tk' O', Is ad' v v' → itok (i + 1) O' → h'.get? I = some O' → Heap.SameBut I h h' → Qn (some v') { s with heap := h', toks := tk' }) → wpAny (model Z.prog Z.w) A (pyNext (.ref I)) Qn En { s with heap := h, toks := tk })
    (stop : ∀ (h : Heap) (tk : Nat) (ad' : List Addr) (news' : List (Addr × Obj)) (H' : Hp) (Oi : Obj) (Qn : Option Value → Shared → Prop) (En : Value → Shared → Prop), itok vals.length Oi → h.get? I = some Oi → Rp Z h₀ L h ad' news' H' → Gr ad news ad' news' → G H' →
      (∀ h', Heap.ExtBut I h h' → Qn none { s with heap := h', toks := tk }) → wpAny (model Z.prog Z.w) A (pyNext (.ref I)) Qn En { s with heap := h, toks := tk })
    (w : wFor G Wb n vals l H Q) (F : Fr h₀ L h1 m) (Rr : Rp Z h₀ L h1 ad ((I, O₁) :: news) H) (Lo : LocOk c.vars ad l m) (nI : I ∉ ad) (i0 : itok 0 O₁)
    (k : ∀ fl l' H' fl' m' h' tk ad' news', Q fl l' H' → Fr h₀ L h' m' → Rp Z h₀ L h' ad' news' H' → LocOk c.vars ad' l' m' → Gr ad news ad' news' → FlIs ad' fl fl' → R' (.ok fl') { s with heap := h', toks := tk }) :
    codeAny (model Z.prog Z.w) A (.forLoop (.Name x px) (.ref I) body [] env) R' { s with heap := h1, toks := tk1 } := by
  refine codeAny_forLoop (fun k' s' => ∃ (i : Nat) (l' : List AV) (H' : Hp) (m' : Str → Option Value) (h' : Heap) (tk : Nat) (ad' : List Addr) (news' : List (Addr × Obj)) (Oi : Obj), s' = { s with heap := h', toks := tk } ∧ i ≤ vals.length ∧ k' = vals.length - i ∧ wFor G Wb n (vals.drop i) l' H' Q ∧ Fr h₀ L h' m' ∧
      Rp Z h₀ L h' ad' news' H' ∧ LocOk c.vars ad' l' m' ∧ Gr ad news ad' news' ∧ (I, Oi) ∈ news' ∧ I ∉ ad' ∧ itok i Oi) ?_ vals.length
    ⟨0, l, H, m, h1, tk1, ad, _, O₁, rfl, Nat.zero_le _, by simp, by simpa using w, F, Rr, Lo, ⟨⟨[], by simp⟩, fun p hp hq => ⟨.tail _ hp, hq⟩⟩, .head _, nI, i0⟩
  rintro k' s' ⟨i, l', H', m', h', tk, ad', news', Oi, rfl, hi, rfl, w, F', R₁, L', g, hm, nI', it⟩
  obtain ⟨hget, hIL, hI0⟩ := R₁.nw _ hm
  by_cases hlt : i < vals.length
  · have ev : vals[i]? = some vals[i] := List.getElem?_eq_getElem hlt
    rw [List.drop_eq_getElem_cons hlt, wFor] at w
    obtain ⟨wg, w⟩ := w
    refine item i vals[i] h' tk ad' news' H' Oi _ _ ev it hget R₁ g wg fun v' h₂ t₂ O₂ iv it₂ hg₂ hs => ?_
    have F₂ := F'.change hs hIL hI0
    have N₂ : News h₀ L h₂ (updN I O₂ news') := by
      obtain ⟨pre, post, e1, e2, q1, q2⟩ := (updN_upd (O' := O₂) R₁.nd hm).split
      rw [e2]
      exact news_set (e1 ▸ R₁.nw) q1 q2 hs hg₂
    have R₂ := R₁.updHid nI' N₂
    have g₂ : Gr ad news ad' (updN I O₂ news') := ⟨g.pre, fun p hp hq => ⟨updN_other (fresh p hp) (g.ex p hp hq).1, (g.ex p hp hq).2⟩⟩
    dsimp only
    refine wpAny_assign_Name (store_ok (s := { s with heap := h₂, toks := t₂ }) B hx iv F₂ R₂ L' fun m₃ h₃ F₃ R₃ L₃ => ?_)
    refine hb _ H' _ w m₃ _ ad' _ _ _ F₃ R₃ L₃ fun fl l₄ H₄ fl' m₄ h₄ t₄ ad₄ news₄ q F₄ R₄ L₄ g₄ j => ?_
    have gg := g₂.trans g₄
    have hI := g₄.ex (I, O₂) (updN_self hm) nI'
    cases fl with
    | next => cases (j : fl' = _); exact ⟨vals.length - (i + 1), by omega, i + 1, l₄, H₄, m₄, h₄, t₄, ad₄, news₄, O₂, rfl, hlt, rfl, q, F₄, R₄, L₄, gg, hI.1, hI.2, it₂⟩
    | cont => cases (j : fl' = _); exact ⟨vals.length - (i + 1), by omega, i + 1, l₄, H₄, m₄, h₄, t₄, ad₄, news₄, O₂, rfl, hlt, rfl, q, F₄, R₄, L₄, gg, hI.1, hI.2, it₂⟩
    | brk => cases (j : fl' = _); exact k _ _ _ _ m₄ h₄ t₄ ad₄ news₄ q F₄ R₄ L₄ gg rfl
    | ret v => obtain ⟨v', rfl, j⟩ := j; exact k _ _ _ _ m₄ h₄ t₄ ad₄ news₄ q F₄ R₄ L₄ gg ⟨v', rfl, j⟩
  · have hi' : i = vals.length := by omega
    subst hi'
    rw [List.drop_length, wFor] at w
    refine stop h' tk ad' news' H' Oi _ _ it hget R₁ g w.1 fun h₂ he => ?_
    dsimp only
    refine wpAny_execs_nil ?_
    have sub : ∀ p ∈ news'.filter (fun p => decide (p.1 ≠ I)), p ∈ news' ∧ p.1 ≠ I := fun p hp => by simpa using hp
    have R₂ : Rp Z h₀ L h₂ ad' (news'.filter (fun p => decide (p.1 ≠ I))) H' := by
      refine ⟨fun p hp => ?_, ?_, R₁.adn, R₁.len, fun kk b o e1 e2 => ?_⟩
      · obtain ⟨h1, h2⟩ := sub p hp
        have z := R₁.nw p h1
        exact ⟨he _ _ h2 z.1, z.2⟩
      · exact List.Pairwise.sublist ((List.filter_sublist).map _) R₁.nd
      · obtain ⟨Oo, q1, q2⟩ := R₁.ob kk b o e1 e2
        have : b ≠ I := fun z => nI' (z ▸ List.mem_iff_getElem?.mpr ⟨kk, e1⟩)
        exact ⟨Oo, by simpa using ⟨q1, this⟩, q2⟩
    exact k _ _ _ _ m' h₂ tk ad' _ w.2 (fr_ext F' he hIL hI0) R₂ L' ⟨g.pre, fun p hp hq => ⟨by simpa using ⟨(g.ex p hp hq).1, fresh p hp⟩, (g.ex p hp hq).2⟩⟩ rfl

theorem range_small {a b d : Int} (h : rangeOk a b d) : Builtin.Range.small a b d = true ∧ Builtin.Range.rangeSize a b d = ((Builtin.Range.rangeSize a b d).toNat : Int) := by
  obtain ⟨h1, h2, h3⟩ := h
  have hs : 0 ≤ Builtin.Range.rangeSize a b d ∧ Builtin.Range.rangeSize a b d < 3000 := by
    unfold Builtin.Range.rangeSize
    rcases h3 with rfl | rfl
    · rw [if_pos (by decide)]
      split <;> omega
    · rw [if_neg (by decide), show (-(-1 : Int)) = 1 from rfl]
      split <;> omega
  refine ⟨?_, by omega⟩
  unfold Builtin.Range.small Builtin.Range.rangeFitsLong
  simp only [Bool.and_eq_true, decide_eq_true_eq, Bool.or_eq_true, beq_iff_eq]
  refine ⟨⟨⟨⟨by omega, by omega⟩, by omega⟩, by omega⟩, ?_⟩
  by_cases z : Builtin.Range.rangeSize a b d = 0
  · exact .inl z
  · right
    split <;> simp only [Bool.and_eq_true, decide_eq_true_eq] <;> omega

section
variable (B : Fm Z O c r h₀ L A env) {x : Str} {px pos : Pos} {n : Nat} {body : List Stmt} {Wb : Tr} (hx : c.loc x = some n) (hb : ExOk Z c.vars h₀ L A (execs body env) Wb)
  {s : Shared} {ad : List Addr} {news : List (Addr × Obj)} {H : Hp} {l : List AV} {m : Str → Option Value} {Q : Cont} {Qc : Flow → Shared → Prop} {Ec : Value → Shared → Prop}
include B hx hb
/-- a loop over a range object at hand -/
theorem loop_range {a b d : Int} {rg : Addr} {t u v : Tok} {E' : Value → Shared → Prop} (ok : rangeOk a b d) (hr : IsRange s.heap rg a b d t u v) (w : wFor (fun _ => True) Wb n (rangeVals a b d) l H Q) (F : Fr h₀ L s.heap m) (Rr : Rp Z h₀ L s.heap ad news H) (Lo : LocOk c.vars ad l m)
    (k : KontS Z c.vars h₀ L s ad news Q Qc) :
    wpAny (model Z.prog Z.w) A (pyIter (.ref rg)) (fun it s₂ => codeAny (model Z.prog Z.w) A (.forLoop (.Name x px) it body [] env) (fun r s' => match r with | .ok f => Qc f s' | .error e => E' e s') s₂) Ec s := by
  obtain ⟨hsm, hn⟩ := range_small ok
  refine wpAny_pyIter_range hr hsm ?_
  have lt : ∀ p ∈ news, p.1 < s.heap.objs.size := fun p hp => Heap.lt_size (Rr.nw p hp).1
  obtain ⟨R', g', nI⟩ := Rr.hide (Rr.nw.push F { cls := .type "range_iterator", data := .fields #[rawInt a, rawInt (Builtin.Range.rangeSize a b d), rawInt d] }) lt
  refine loop_core B hx hb (rangeVals a b d) (fun _ => True) s.heap.objs.size (fun i o => o = { cls := .type "range_iterator", dict := none, data := .fields #[rawInt (a + (i : Int) * d), rawInt (Builtin.Range.rangeSize a b d - (i : Int)), rawInt d], slots := #[] })
    (fun p hp => Nat.ne_of_lt (lt p hp)) ?_ ?_ w (F.push _) R' Lo nI (by simp) (fun fl l' H' fl' m' h' tk ad' news' q F' R' L' g i => k _ _ _ _ _ h' tk ad' news' q F' R' L' g i)
  · intro i vv h tk ad' news' H' Oi Qn En hv it hg R₁ g₁ _ k₁
    subst it
    have hlt := (List.getElem?_eq_some_iff.mp hv).1
    simp only [rangeVals, List.length_map, List.length_range] at hlt
    have ev : vv = .int (a + (i : Int) * d) := by
      simp only [rangeVals, List.getElem?_map, List.getElem?_range hlt, Option.map_some] at hv
      exact (Option.some.inj hv).symm
    subst ev
    refine wpAny_pyNext_range_item hg (by omega) fun h' hi hs => ?_
    have hi' : IsRangeIter h' s.heap.objs.size (a + ((i + 1 : Nat) : Int) * d) (Builtin.Range.rangeSize a b d - ((i + 1 : Nat) : Int)) d := by
      have e1 : a + (i : Int) * d + d = a + ((i + 1 : Nat) : Int) * d := by rw [Int.natCast_add, Int.add_mul]; simp [Int.add_assoc]
      have e2 : Builtin.Range.rangeSize a b d - (i : Int) - 1 = Builtin.Range.rangeSize a b d - ((i + 1 : Nat) : Int) := by omega
      rw [← e1, ← e2]; exact hi
    exact k₁ _ _ _ _ ⟨_, rfl⟩ rfl hi' hs
  · intro h tk ad' news' H' Oi Qn En it hg R₁ g₁ _ k₁
    subst it
    simp only [rangeVals, List.length_map, List.length_range] at hg
    exact wpAny_pyNext_range_end B.hh hg (by omega) fun h' he => k₁ h' he

theorem loop_list {kk : Nat} {vs : List AV} {a : Addr} {E' : Value → Shared → Prop} (ea : ad[kk]? = some a) (e : H[kk]? = some (.list vs)) (w : wFor (fun H => H[kk]? = some (.list vs)) Wb n vs l H Q) (F : Fr h₀ L s.heap m) (Rr : Rp Z h₀ L s.heap ad news H) (Lo : LocOk c.vars ad l m)
    (k : KontS Z c.vars h₀ L s ad news Q Qc) :
    wpAny (model Z.prog Z.w) A (pyIter (.ref a)) (fun it s₂ => codeAny (model Z.prog Z.w) A (.forLoop (.Name x px) it body [] env) (fun r s' => match r with | .ok f => Qc f s' | .error e => E' e s') s₂) Ec s := by
  obtain ⟨items, nn, hm, hl, rr⟩ := Rr.lst ea e
  refine wpAny_pyIter_list hl ?_
  have lt : ∀ p ∈ news, p.1 < s.heap.objs.size := fun p hp => Heap.lt_size (Rr.nw p hp).1
  obtain ⟨R', g', nI⟩ := Rr.hide (Rr.nw.push F { cls := .type "list_iterator", data := .fields #[.ref a, .int 0 0] }) lt
  refine loop_core B hx hb vs (fun H => H[kk]? = some (.list vs)) s.heap.objs.size (fun i o => o.cls = .type "list_iterator" ∧ o.data = .fields #[.ref a, .int (i : Int) 0])
    (fun p hp => Nat.ne_of_lt (lt p hp)) ?_ ?_ w (F.push _) R' Lo nI ⟨rfl, rfl⟩ (fun fl l' H' fl' m' h' tk ad' news' q F' R' L' g i => k _ _ _ _ _ h' tk ad' news' q F' R' L' g i)
  · intro i vv h tk ad' news' H' Oi Qn En hv it hg R₁ g₁ wg k₁
    have ea' : ad'[kk]? = some a := by obtain ⟨t, rfl⟩ := g₁.pre; exact get_app ea
    obtain ⟨items', nn', hm', hl', rr'⟩ := R₁.lst ea' wg
    obtain ⟨v', hv', iv⟩ := rr'.get hv
    refine wpAny_pyNext_list_item ⟨Oi, hg, it.1, it.2⟩ hl' (by simpa using hv') fun h' hi hs => ?_
    obtain ⟨O', ho', hc, hd⟩ := hi
    exact k₁ _ _ tk O' iv ⟨hc, hd⟩ ho' hs
  · intro h tk ad' news' H' Oi Qn En it hg R₁ g₁ wg k₁
    have ea' : ad'[kk]? = some a := by obtain ⟨t, rfl⟩ := g₁.pre; exact get_app ea
    obtain ⟨items', nn', hm', hl', rr'⟩ := R₁.lst ea' wg
    exact wpAny_pyNext_list_end B.hh ⟨Oi, hg, it.1, it.2⟩ hl' (by simp [rr'.length]) fun h' he => k₁ h' he

theorem loop_tup {kk : Nat} {vs : List AV} {a : Addr} {E' : Value → Shared → Prop} (ea : ad[kk]? = some a) (e : H[kk]? = some (.tup vs)) (w : wFor (fun H => H[kk]? = some (.tup vs)) Wb n vs l H Q) (F : Fr h₀ L s.heap m) (Rr : Rp Z h₀ L s.heap ad news H) (Lo : LocOk c.vars ad l m)
    (k : KontS Z c.vars h₀ L s ad news Q Qc) :
    wpAny (model Z.prog Z.w) A (pyIter (.ref a)) (fun it s₂ => codeAny (model Z.prog Z.w) A (.forLoop (.Name x px) it body [] env) (fun r s' => match r with | .ok f => Qc f s' | .error e => E' e s') s₂) Ec s := by
  obtain ⟨items, nn, hm, hl, rr⟩ := Rr.tup ea e
  refine wpAny_pyIter_tuple hl ?_
  have lt : ∀ p ∈ news, p.1 < s.heap.objs.size := fun p hp => Heap.lt_size (Rr.nw p hp).1
  obtain ⟨R', g', nI⟩ := Rr.hide (Rr.nw.push F { cls := .type "tuple_iterator", data := .fields #[.ref a, .int 0 0] }) lt
  refine loop_core B hx hb vs (fun H => H[kk]? = some (.tup vs)) s.heap.objs.size (fun i o => o.cls = .type "tuple_iterator" ∧ o.data = .fields #[.ref a, .int (i : Int) 0])
    (fun p hp => Nat.ne_of_lt (lt p hp)) ?_ ?_ w (F.push _) R' Lo nI ⟨rfl, rfl⟩ (fun fl l' H' fl' m' h' tk ad' news' q F' R' L' g i => k _ _ _ _ _ h' tk ad' news' q F' R' L' g i)
  · intro i vv h tk ad' news' H' Oi Qn En hv it hg R₁ g₁ wg k₁
    have ea' : ad'[kk]? = some a := by obtain ⟨t, rfl⟩ := g₁.pre; exact get_app ea
    obtain ⟨items', nn', hm', hl', rr'⟩ := R₁.tup ea' wg
    obtain ⟨v', hv', iv⟩ := rr'.get hv
    refine wpAny_pyNext_tuple_item ⟨Oi, hg, it.1, it.2⟩ hl' (by simpa using hv') fun h' hi hs => ?_
    obtain ⟨O', ho', hc, hd⟩ := hi
    exact k₁ _ _ tk O' iv ⟨hc, hd⟩ ho' hs
  · intro h tk ad' news' H' Oi Qn En it hg R₁ g₁ wg k₁
    have ea' : ad'[kk]? = some a := by obtain ⟨t, rfl⟩ := g₁.pre; exact get_app ea
    obtain ⟨items', nn', hm', hl', rr'⟩ := R₁.tup ea' wg
    exact wpAny_pyNext_tuple_end B.hh ⟨Oi, hg, it.1, it.2⟩ hl' (by simp [rr'.length]) fun h' he => k₁ h' he

theorem ex_forV {it : Expr} {e : E} (he : comp c it = some e) :
    ExOk Z c.vars h₀ L A (exec (.For (.Name x px) it body [] pos) env) (fun l H Q => wE O l e H fun v H => wIter Wb n v l H Q) := fun l H Q w m s ad news Qc Ec F R Lo k =>
  wpAny_For ((eval_ok B he).use w F R Lo fun v₁ H₁ y h₁ t₁ ad₁ news₁ w₁ F₁ R₁ L₁ g₁ i₁ => by
    have k₁ : KontS Z c.vars h₀ L { s with heap := h₁, toks := t₁ } ad₁ news₁ Q Qc := fun fl l' H' fl' m' h' tk ad' news' q F' R' L' g i => k _ _ _ _ _ h' tk ad' news' q F' R' L' (g₁.trans g) i
    unfold wIter at w₁
    split at w₁
    · rename_i kk
      obtain ⟨a, ea, rfl⟩ := i₁
      split at w₁
      · rename_i vs e
        exact loop_list (s := { s with heap := h₁, toks := t₁ }) B hx hb ea e w₁ F₁ R₁ L₁ k₁
      · rename_i vs e
        exact loop_tup (s := { s with heap := h₁, toks := t₁ }) B hx hb ea e w₁ F₁ R₁ L₁ k₁
      · rename_i a' b' d' e
        obtain ⟨Oo, hm, t, u, v, rfl⟩ := R₁.hasAt ea e
        exact loop_range (s := { s with heap := h₁, toks := t₁ }) B hx hb w₁.1 (R₁.nw _ hm).1 w₁.2 F₁ R₁ L₁ k₁
      · exact w₁.elim
    · exact w₁.elim) (by
      intro v
      cases it <;> first | rfl | (cases (show (none : Option E) = some e from he)))
end
end
end Mine

namespace Mine
section
variable {Z : Wd} {vars : List Str} {h₀ : Heap} {L : Addr} {A : Around} {O : Orc} {c : Cx} {r : Nat} {env : Env}

theorem isRange_some {it : Expr} {as : List Expr} (h : c.isRange it = some as) : ∃ y p pos, it = .Call (.Name y p) as [] pos ∧ c.glob y = some .rng ∧ as.all noStar = true ∧ as.isEmpty = false := by
  unfold Cx.isRange at h
  split at h
  · split at h
    · rename_i hg
      split at h
      · rename_i hc
        cases h
        simp only [Bool.and_eq_true, Bool.not_eq_true'] at hc
        exact ⟨_, _, _, rfl, hg, hc.1, hc.2⟩
      · cases h
    · cases h
  · cases h
theorem range_core (B : Fm Z O c r h₀ L A env) {y : Str} {p pos : Pos} {as : List Expr} {as' : List E} {l : List AV} (hs : as.all noStar = true) (hne : as.isEmpty = false) (hg : c.glob y = some .rng) (ha : comps c as = some as')
    {H : Hp} {Q : List AV → Hp → Prop} {m s ad news} {Qc Ec : Value → Shared → Prop} (w : wEs O l as' H Q) (F : Fr h₀ L s.heap m) (R : Rp Z h₀ L s.heap ad news H) (Lo : LocOk c.vars ad l m)
    (k : ∀ args H' vs h' tk ad' news', Q args H' → Fr h₀ L h' m → Rp Z h₀ L h' ad' news' H' → LocOk c.vars ad' l m → Gr ad news ad' news' → All2 (Is ad') args vs → wpAny (model Z.prog Z.w) A (call (.type "range") vs) Qc Ec { s with heap := h', toks := tk }) :
    wpAny (model Z.prog Z.w) A (eval (.Call (.Name y p) as [] pos) env) Qc Ec s := by
  obtain ⟨hd, hk, hg⟩ := glob_some hg
  obtain ⟨h1, h2, h3⟩ := B.gl.rng _ hg
  obtain ⟨e, rest, rfl⟩ := spl_ne hne
  have hs' := hs
  have hev := evs_ok (pos := pos) (fun e _ e' he => eval_ok (l := l) B he) hs ha
  rw [List.all_cons, Bool.and_eq_true] at hs
  refine Call_ ?_ rfl
  obtain ⟨qual, fa, cdv, he⟩ := B.en
  subst he
  refine nameX_B (cl := []) F B.X (topRead_of B.T) h1 h2 h3 ?_ B.kd hk hd
  have key : wpAny (model Z.prog Z.w) A (spliced (backTo pos (starEach (e :: rest) (envOf qual c.scope L fa cdv)))) (fun vs s₁ => wpAny (model Z.prog Z.w) A (call (.type "range") vs) Qc Ec s₁) Ec s :=
    hev.use w F R Lo fun v₁ H₁ x h₁ t₁ ad₁ news₁ w₁ F₁ R₁ L₁ g₁ i₁ => k _ _ _ h₁ t₁ ad₁ news₁ w₁ F₁ R₁ L₁ g₁ i₁
  have any := star_any (env := envOf qual c.scope L fa cdv) (pos := pos) hs'
  rw [starEach_cons hs.1, backTo_cons] at key any ⊢
  exact PySem.callWith_type any (evalArgs_plain key)

theorem ex_forR (B : Fm Z O c r h₀ L A env) {x : Str} {px pos : Pos} {n : Nat} {body : List Stmt} {Wb : Tr} (hx : c.loc x = some n) (hb : ExOk Z c.vars h₀ L A (execs body env) Wb) {it : Expr} {as : List Expr} {as' : List E} (hi : c.isRange it = some as) (ha : comps c as = some as') :
    ExOk Z c.vars h₀ L A (exec (.For (.Name x px) it body [] pos) env) (fun l H Q => wEs O l as' H fun vs H => (match rangeA vs with | some (a, d, c) => rangeOk a d c ∧ wFor (fun _ => True) Wb n (rangeVals a d c) l H Q | none => False)) := fun l H Q w m s ad news Qc Ec F R Lo k => by
  obtain ⟨y, p, pos', rfl, hg, hs, hne⟩ := isRange_some hi
  refine wpAny_For (range_core B hs hne hg ha w F R Lo fun args H' vs h' tk ad' news' w₁ F₁ R₁ L₁ g₁ i => ?_) (by intro v; rfl)
  have k₁ : KontS Z c.vars h₀ L { s with heap := h', toks := tk } ad' news' Q Qc := fun fl l' H' fl' m' h' tk ad' news' q F' R' L' g i => k _ _ _ _ _ h' tk ad' news' q F' R' L' (g₁.trans g) i
  have fin : ∀ (a b d : Int) (t u v : Tok) (tk' : Nat), rangeOk a b d → wFor (fun _ => True) Wb n (rangeVals a b d) l H' Q →
      wpAny (model Z.prog Z.w) A (pyIter (.ref h'.objs.size)) (fun it s₂ => codeAny (model Z.prog Z.w) A (.forLoop (.Name x px) it body [] env) (fun r s' => match r with | .ok f => Qc f s' | .error e => cameBackBy (model Z.prog Z.w) A env Ec e s') s₂) Ec
        { s with heap := h'.push { cls := .type "range", data := .fields #[.int a t, .int b u, .int d v] }, toks := tk' } := by
    intro a b d t u v tk' ok w'
    have N' : News h₀ L (h'.push { cls := .type "range", data := .fields #[.int a t, .int b u, .int d v] }) news' := fun p hp => ⟨Heap.get?_push_of_some _ (R₁.nw p hp).1, (R₁.nw p hp).2⟩
    exact loop_range (s := { s with heap := h'.push { cls := .type "range", data := .fields #[.int a t, .int b u, .int d v] }, toks := tk' }) B hx hb ok (IsRange.new h' a b d t u v) w' (F₁.push _) (R₁.same N') L₁
      fun fl l' H' fl' m' h' tk ad' news' q F' R' L' g i => k₁ _ _ _ _ _ h' tk ad' news' q F' R' L' g i
  unfold rangeA at w₁
  split at w₁
  · rename_i a b c hq
    split at hq
    · cases hq
      cases i with
      | cons i j =>
        cases j
        obtain ⟨t, rfl⟩ := i
        exact call_range_1 (fin _ _ _ _ _ _ _ w₁.1 w₁.2)
    · cases hq
      cases i with
      | cons i j =>
        cases j with
        | cons j l =>
          cases l
          obtain ⟨t, rfl⟩ := i
          obtain ⟨u, rfl⟩ := j
          exact call_range_2 (fin _ _ _ _ _ _ _ w₁.1 w₁.2)
    · cases hq
      cases i with
      | cons i j =>
        cases j with
        | cons j l =>
          cases l with
          | cons l l' =>
            cases l'
            obtain ⟨t, rfl⟩ := i
            obtain ⟨u, rfl⟩ := j
            obtain ⟨v, rfl⟩ := l
            have hc : c = 1 ∨ c = -1 := w₁.1.2.2
            exact call_range_3 (by omega) (fin _ _ _ _ _ _ _ w₁.1 w₁.2) (.inl (PyProof.noPylong_small (by omega)))
    · cases hq
  · exact w₁.elim

theorem tup_unpack (B : Fm Z O c r h₀ L A env) {vs : List AV} {xs : List Value} {n : Nat} {m s ad news H} {Qc : List Value → Shared → Prop} {Ec : Value → Shared → Prop} (F : Fr h₀ L s.heap m) (R : Rp Z h₀ L s.heap ad news H) (i : All2 (Is ad) vs xs) (hn : n = xs.length) (hle : xs.length ≤ 10)
    (k : ∀ h' news', Fr h₀ L h' m → Rp Z h₀ L h' ad news' H → Gr ad news ad news' → Qc xs { s with heap := h' }) :
    wpAny (model Z.prog Z.w) A (newTuple xs) (fun v s₁ => wpAny (model Z.prog Z.w) A (unpackItems v n none) Qc Ec s₁) Ec s := by
  refine newTuple_N F R.nw (fun h' F' N' => ?_) (by simp [sizeLine_eq]; omega)
  have lt : ∀ p ∈ news, p.1 < s.heap.objs.size := fun p hp => Heap.lt_size (R.nw p hp).1
  obtain ⟨R', g, _⟩ := R.hide N' lt
  have ht : IsTup h' s.heap.objs.size xs.toArray := ⟨_, (N' _ (.head _)).1, rfl, 0, rfl⟩
  refine unpackItemsN_ (s := { s with heap := h' }) F' N' ht B.hh (by simp [hn]) fun h'' F'' N'' => ?_
  exact k h'' _ F'' (R'.same N'') g

theorem lget_bne {x y : Str} (h : (x != y) = true) : ¬ x = y := by
  intro e; subst e; simp at h

theorem ex_assign2 (B : Fm Z O c r h₀ L A env) {x y : Str} {p q tp vp pos : Pos} {k₁ k₂ : Nat} {a b : Expr} {n₁ n₂ : Nat} {ea eb : E} (hc : tup2 c p q x y a b = true) (hx : c.loc x = some n₁) (hy : c.loc y = some n₂) (ha : comp c a = some ea) (hb : comp c b = some eb) :
    ExOk Z c.vars h₀ L A (exec (.Assign [.Tuple [.Name x p, .Name y q] k₁ tp] (.Tuple [a, b] k₂ vp) pos) env) (fun l H Q => wE O l ea H fun v₁ H => wE O l eb H fun v₂ H => Q .next (lset (lset l n₂ v₂) n₁ v₁) H) := fun l H Q w m s ad news Qc Ec F R Lo k => by
  unfold tup2 at hc
  simp only [Bool.and_eq_true, Bool.not_eq_true'] at hc
  obtain ⟨⟨⟨⟨⟨⟨⟨h1, h2⟩, h3⟩, h4⟩, h5⟩, h6⟩, h7⟩, h8⟩ := hc
  have hsw : swappedStores [.Tuple [.Name x p, .Name y q] k₁ tp] (.Tuple [a, b] k₂ vp) env = pure (some [x, y]) := by
    obtain ⟨qual, fa, cdv, rfl⟩ := B.en
    have hbk : (envOf qual c.scope L fa cdv).blockKind = .function := by
      show (if c.scope.kind.isAnnotationScope then ScopeKind.function else c.scope.kind) = .function
      rw [B.kd]; rfl
    have kx : (envOf qual c.scope L fa cdv).kindOf x = some .local := (loc_some hx).1
    have ky : (envOf qual c.scope L fa cdv).kindOf y = some .local := (loc_some hy).1
    have hxy : (y == x) = false := by
      cases z : (y == x) with
      | false => rfl
      | true => exact absurd (eq_of_beq z).symm (lget_bne h4)
    have hl : (q.line == p.line) = true := h1
    have he : ([x, y].eraseDups.length != ([x, y] : List Str).length) = false := by
      simp [List.eraseDups_cons, hxy]
    unfold swappedStores
    dsimp only
    refine (if_neg (by rw [hbk]; intro z; cases z)).trans ?_
    refine (if_neg (fun hh => ?_)).trans ?_
    · simp only [List.any_cons, List.any_nil, Bool.or_eq_true, Bool.or_false] at hh
      rcases hh with hh | hh
      · cases a <;> first | (cases hh; done) | (cases h5; done)
      · cases b <;> first | (cases hh; done) | (cases h6; done)
    generalize hN : List.filterMap _ [Expr.Name x p, Expr.Name y q] = names
    have hl' : q.line = p.line := eq_of_beq h1
    have hf : names = [x, y] := by
      rw [← hN]
      simp [kx, ky, Expr.pos, hl']
    rw [hf]
    refine (if_neg (by rw [he]; simp)).trans ?_
    refine (if_neg (by rw [h7]; decide)).trans ?_
    refine (if_neg (by rw [h8]; decide)).trans ?_
    rfl
  refine Assign_Tuple_swapped (names := [x, y]) ?_ rfl hsw
  refine Tuple_ ?_
  rw [starEach_cons h5, starEach_cons h6, backTo_cons, backTo_cons]
  refine spliced_cons ((eval_ok B ha).use w F R Lo fun v₁ H₁ xv h₁ t₁ ad₁ news₁ w₁ F₁ R₁ L₁ g₁ i₁ => ?_)
  refine spliced_cons ((eval_ok B hb).use w₁ F₁ R₁ L₁ fun v₂ H₂ yv h₂ t₂ ad₂ news₂ w₂ F₂ R₂ L₂ g₂ i₂ => ?_)
  refine spliced_nil ?_
  refine tup_unpack (s := { s with heap := h₂, toks := t₂ }) (vs := [v₁, v₂]) B F₂ R₂ (.cons (g₂.is i₁) (.cons i₂ .nil)) rfl (by simp) fun h₃ news₃ F₃ R₃ g₃ => ?_
  show wpAny (model Z.prog Z.w) A (do holding [xv] (bindName env y yv); (do holding [] (bindName env x xv); pure ())) _ _ _
  refine wpAny_bind (wpAny_holding (bindName_ (store_ok (s := { s with heap := h₃, toks := t₂ }) B hy (g₃.is i₂) F₃ R₃ (L₂.mono g₃) fun m₄ h₄ F₄ R₄ L₄ => ?_)))
  refine wpAny_bind (wpAny_holding (bindName_ (store_ok (s := { s with heap := h₄, toks := t₂ + 1 }) B hx (g₃.is (g₂.is i₁)) F₄ R₄ L₄ fun m₅ h₅ F₅ R₅ L₅ => ?_)))
  exact wpAny_pure (k _ _ _ _ m₅ h₅ _ ad₂ news₃ w₂ F₅ R₅ L₅ ((g₁.trans g₂).trans g₃) rfl)
theorem ex_assign3 (B : Fm Z O c r h₀ L A env) {x y z : Str} {p q rp tp vp pos : Pos} {k₁ k₂ : Nat} {a b d : Expr} {n₁ n₂ n₃ : Nat} {ea eb ed : E} (hc : tup3 c p q rp x y z a b d = true) (hx : c.loc x = some n₁) (hy : c.loc y = some n₂) (hz : c.loc z = some n₃) (ha : comp c a = some ea) (hb : comp c b = some eb) (hd : comp c d = some ed) :
    ExOk Z c.vars h₀ L A (exec (.Assign [.Tuple [.Name x p, .Name y q, .Name z rp] k₁ tp] (.Tuple [a, b, d] k₂ vp) pos) env) (fun l H Q => wE O l ea H fun v₁ H => wE O l eb H fun v₂ H => wE O l ed H fun v₃ H => Q .next (lset (lset (lset l n₃ v₃) n₂ v₂) n₁ v₁) H) := fun l H Q w m s ad news Qc Ec F R Lo k => by
  unfold tup3 at hc
  simp only [Bool.and_eq_true, Bool.not_eq_true'] at hc
  obtain ⟨⟨⟨⟨⟨⟨⟨⟨⟨⟨⟨⟨h1, h1'⟩, h2⟩, h3⟩, h3'⟩, h4⟩, h4'⟩, h4''⟩, h5⟩, h6⟩, h6'⟩, h7⟩, h8⟩ := hc
  have hsw : swappedStores [.Tuple [.Name x p, .Name y q, .Name z rp] k₁ tp] (.Tuple [a, b, d] k₂ vp) env = pure (some [x, y, z]) := by
    obtain ⟨qual, fa, cdv, rfl⟩ := B.en
    have hbk : (envOf qual c.scope L fa cdv).blockKind = .function := by
      show (if c.scope.kind.isAnnotationScope then ScopeKind.function else c.scope.kind) = .function
      rw [B.kd]; rfl
    have kx : (envOf qual c.scope L fa cdv).kindOf x = some .local := (loc_some hx).1
    have ky : (envOf qual c.scope L fa cdv).kindOf y = some .local := (loc_some hy).1
    have kz : (envOf qual c.scope L fa cdv).kindOf z = some .local := (loc_some hz).1
    have ne : ∀ {u v : Str}, (u != v) = true → (v == u) = false := by
      intro u v h
      cases z : (v == u) with
      | false => rfl
      | true => exact absurd (eq_of_beq z).symm (lget_bne h)
    have hl : q.line = p.line := eq_of_beq h1
    have hl2 : rp.line = p.line := eq_of_beq h1'
    have he : ([x, y, z].eraseDups.length != ([x, y, z] : List Str).length) = false := by
      simp [List.eraseDups_cons, ne h4, ne h4', ne h4'']
    unfold swappedStores
    dsimp only
    refine (if_neg (by rw [hbk]; intro z; cases z)).trans ?_
    refine (if_neg (fun hh => ?_)).trans ?_
    · simp only [List.any_cons, List.any_nil, Bool.or_eq_true, Bool.or_false] at hh
      rcases hh with hh | hh | hh
      · cases a <;> first | (cases hh; done) | (cases h5; done)
      · cases b <;> first | (cases hh; done) | (cases h6; done)
      · cases d <;> first | (cases hh; done) | (cases h6'; done)
    generalize hN : List.filterMap _ [Expr.Name x p, Expr.Name y q, Expr.Name z rp] = names
    have hf : names = [x, y, z] := by
      rw [← hN]
      simp [kx, ky, kz, Expr.pos, hl, hl2]
    rw [hf]
    refine (if_neg (by rw [he]; simp)).trans ?_
    refine (if_neg (by rw [h7]; decide)).trans ?_
    refine (if_neg (by rw [h8]; decide)).trans ?_
    rfl
  refine Assign_Tuple_swapped (names := [x, y, z]) ?_ rfl hsw
  refine Tuple_ ?_
  rw [starEach_cons h5, starEach_cons h6, starEach_cons h6', backTo_cons, backTo_cons, backTo_cons]
  refine spliced_cons ((eval_ok B ha).use w F R Lo fun v₁ H₁ xv h₁ t₁ ad₁ news₁ w₁ F₁ R₁ L₁ g₁ i₁ => ?_)
  refine spliced_cons ((eval_ok B hb).use w₁ F₁ R₁ L₁ fun v₂ H₂ yv h₂ t₂ ad₂ news₂ w₂ F₂ R₂ L₂ g₂ i₂ => ?_)
  refine spliced_cons ((eval_ok B hd).use w₂ F₂ R₂ L₂ fun v₃ H₃ zv h₃ t₃ ad₃ news₃ w₃ F₃ R₃ L₃ g₃ i₃ => ?_)
  refine spliced_nil ?_
  refine tup_unpack (s := { s with heap := h₃, toks := t₃ }) (vs := [v₁, v₂, v₃]) B F₃ R₃ (.cons ((g₂.trans g₃).is i₁) (.cons (g₃.is i₂) (.cons i₃ .nil))) rfl (by simp) fun h₄ news₄ F₄ R₄ g₄ => ?_
  show wpAny (model Z.prog Z.w) A (do holding [yv, xv] (bindName env z zv); (do holding [xv] (bindName env y yv); (do holding [] (bindName env x xv); pure ()))) _ _ _
  refine wpAny_bind (wpAny_holding (bindName_ (store_ok (s := { s with heap := h₄, toks := t₃ }) B hz (g₄.is i₃) F₄ R₄ (L₃.mono g₄) fun m₅ h₅ F₅ R₅ L₅ => ?_)))
  refine wpAny_bind (wpAny_holding (bindName_ (store_ok (s := { s with heap := h₅, toks := t₃ + 1 }) B hy (g₄.is (g₃.is i₂)) F₅ R₅ L₅ fun m₆ h₆ F₆ R₆ L₆ => ?_)))
  refine wpAny_bind (wpAny_holding (bindName_ (store_ok (s := { s with heap := h₆, toks := t₃ + 1 + 1 }) B hx (g₄.is ((g₂.trans g₃).is i₁)) F₆ R₆ L₆ fun m₇ h₇ F₇ R₇ L₇ => ?_)))
  exact wpAny_pure (k _ _ _ _ m₇ h₇ _ ad₃ news₄ w₃ F₇ R₇ L₇ (((g₁.trans g₂).trans g₃).trans g₄) rfl)

theorem ExOk.ofEq {ex : Sem Flow} {W W' : Tr} (h : ExOk Z vars h₀ L A ex W) (e : ∀ l H Q, W' l H Q → W l H Q) : ExOk Z vars h₀ L A ex W' := fun l H Q w => h l H Q (e l H Q w)

theorem tup_sound (B : Fm Z O c r h₀ L A env) {ts vs : List Expr} {k₁ k₂ : Nat} {tp vp pos : Pos} {st' : S} (h : compTup c ts vs = some st') : ExOk Z c.vars h₀ L A (exec (.Assign [.Tuple ts k₁ tp] (.Tuple vs k₂ vp) pos) env) (wS O st') := by
  unfold compTup at h
  split at h
  · split at h
    · refine bsome h ?_; clear h; intro x hx0 h
      refine bsome h ?_; clear h; intro y hy0 h
      split at h
      · rename_i hc
        refine bsome h ?_; clear h; intro n₁ hx h
        refine bsome h ?_; clear h; intro n₂ hy h
        refine bsome h ?_; clear h; intro a ha h
        refine bsome h ?_; clear h; intro b hb h
        cases h
        have i1 := nameE_some hx0
        have i2 := nameE_some hy0
        subst i1 i2
        exact (ex_assign2 B hc hx hy ha hb).ofEq fun l H Q w => w
      · cases h
    · cases h
  · split at h
    · refine bsome h ?_; clear h; intro x hx0 h
      refine bsome h ?_; clear h; intro y hy0 h
      refine bsome h ?_; clear h; intro z hz0 h
      split at h
      · rename_i hc
        refine bsome h ?_; clear h; intro n₁ hx h
        refine bsome h ?_; clear h; intro n₂ hy h
        refine bsome h ?_; clear h; intro n₃ hz h
        refine bsome h ?_; clear h; intro a ha h
        refine bsome h ?_; clear h; intro b hb h
        refine bsome h ?_; clear h; intro d hd h
        cases h
        have i1 := nameE_some hx0
        have i2 := nameE_some hy0
        have i3 := nameE_some hz0
        subst i1 i2 i3
        exact (ex_assign3 B hc hx hy hz ha hb hd).ofEq fun l H Q w => w
      · cases h
    · cases h
  · cases h
theorem asg_sound (B : Fm Z O c r h₀ L A env) {t v : Expr} {pos : Pos} {st' : S} (h : compAsg c t v = some st') : ExOk Z c.vars h₀ L A (exec (.Assign [t] v pos) env) (wS O st') := by
  unfold compAsg at h
  split at h
  · refine bsome h ?_; clear h; intro n hx h
    refine bsome h ?_; clear h; intro e he h
    cases h
    exact (ex_assign B hx he).ofEq fun l H Q w => w
  · refine bsome h ?_; clear h; intro o ho h
    refine bsome h ?_; clear h; intro n hx h
    refine bsome h ?_; clear h; intro e he h
    cases h
    exact (ex_attrSet B hx ho he).ofEq fun l H Q w => w
  · split at h
    · refine bsome h ?_; clear h; intro o ho h
      refine bsome h ?_; clear h; intro i hi h
      refine bsome h ?_; clear h; intro e he h
      cases h
      exact (ex_subSet B ho hi he).ofEq fun l H Q w => w
    · cases h
  · refine bsome h ?_; clear h; intro q hq h
    have := tupE_some hq
    subst this
    exact tup_sound B h
  · cases h
theorem aug_sound (B : Fm Z O c r h₀ L A env) {t v : Expr} {op : Operator} {pos : Pos} {st' : S} (h : compAug c t op v = some st') : ExOk Z c.vars h₀ L A (exec (.AugAssign t op v pos) env) (wS O st') := by
  unfold compAug at h
  split at h
  · refine bsome h ?_; clear h; intro n hx h
    refine bsome h ?_; clear h; intro e he h
    cases h
    exact (ex_augN B hx he).ofEq fun l H Q w => w
  · refine bsome h ?_; clear h; intro o ho h
    refine bsome h ?_; clear h; intro n hx h
    refine bsome h ?_; clear h; intro e he h
    cases h
    exact (ex_augA B hx ho he).ofEq fun l H Q w => w
  · split at h
    · rename_i hs
      refine bsome h ?_; clear h; intro o ho h
      refine bsome h ?_; clear h; intro i hi h
      refine bsome h ?_; clear h; intro e he h
      cases h
      exact (ex_augS B hs ho hi he).ofEq fun l H Q w => w
    · cases h
  · cases h
mutual
theorem exec_sound (B : Fm Z O c r h₀ L A env) : ∀ (st : Stmt) (st' : S), compS c st = some st' → ExOk Z c.vars h₀ L A (exec st env) (wS O st')
  | st, st', h => by
    unfold compS at h
    split at h
    · refine bsome h ?_; clear h; intro t ht h
      have := oneE_some ht
      subst this
      exact asg_sound B h
    · exact aug_sound B h
    · refine bsome h ?_; clear h; intro e he h
      cases h
      exact (ex_expr B he).ofEq fun l H Q w => w
    · refine bsome h ?_; clear h; intro v hv h
      refine bsome h ?_; clear h; intro e he h
      cases h
      subst hv
      exact (ex_ret B he).ofEq fun l H Q w => w
    · cases h
      intro l H Q w
      rw [wS] at w; exact w.elim
    · refine bsome h ?_; clear h; intro t ht h
      refine bsome h ?_; clear h; intro a ha h
      refine bsome h ?_; clear h; intro b hb h
      cases h
      exact (ex_if B ht (execs_sound B _ _ ha) (execs_sound B _ _ hb)).ofEq fun l H Q w => w
    · split at h
      · rename_i hn
        rw [List.isEmpty_iff] at hn
        subst hn
        refine bsome h ?_; clear h; intro t ht h
        refine bsome h ?_; clear h; intro b hb h
        cases h
        exact (ex_while B ht (execs_sound B _ _ hb)).ofEq fun l H Q w => w
      · cases h
    · refine bsome h ?_; clear h; intro x hx0 h
      have := nameE_some hx0
      subst this
      split at h
      · rename_i hn
        rw [List.isEmpty_iff] at hn
        subst hn
        refine bsome h ?_; clear h; intro n hx h
        split at h
        · rename_i as hi
          refine bsome h ?_; clear h; intro as' ha h
          refine bsome h ?_; clear h; intro b hb h
          cases h
          exact (ex_forR B hx (execs_sound B _ _ hb) hi ha).ofEq fun l H Q w => w
        · refine bsome h ?_; clear h; intro e he h
          refine bsome h ?_; clear h; intro b hb h
          cases h
          exact (ex_forV B hx (execs_sound B _ _ hb) he).ofEq fun l H Q w => w
      · cases h
    · cases h
theorem execs_sound (B : Fm Z O c r h₀ L A env) : ∀ (sts : List Stmt) (sts' : List S), compSs c sts = some sts' → ExOk Z c.vars h₀ L A (execs sts env) (wSs O sts')
  | [], sts', h => by
    rw [compSs] at h; cases h
    exact ex_nil.ofEq fun l H Q w => by rw [wSs] at w; exact w
  | st :: rest, sts', h => by
    rw [compSs] at h
    refine bsome h ?_; clear h; intro a ha h
    refine bsome h ?_; clear h; intro b hb h
    cases h
    exact (ex_cons (exec_sound B st a ha) (execs_sound B rest b hb)).ofEq fun l H Q w => by rw [wSs] at w; exact w
end
end
end Mine

namespace Mine

/-- as CallOk, of the code itself (a call's, or an __init__'s) -/
noncomputable def CodeOk (Z : Wd) (r : Nat) (fa : Addr) (W : List AV → Hp → (AV → Hp → Prop) → Prop) : Prop :=
  ∀ args H Q, W args H Q → ∀ (A : Around) (env : Env) (outer : List Env) (A₀ : Around) (base h₀ : Heap) (L : Addr) (m : Str → Option Value) (s : Shared) (ad : List Addr) (news : List (Addr × Obj)) (vs : List Value) (R : Result → Shared → Prop),
    env.frame = some L → env.scope.kind = .function → A.frames = some (env :: outer) → Below A₀ base outer h₀ → Z.K.In h₀ → Top Z.p Z.loose Z.mean Z.mg Z.mb h₀ → A.handled = none → A.depth + 8 * (r + 1) < recursionLimit →
    Fr h₀ L s.heap m → Rp Z h₀ L s.heap ad news H → All2 (Is ad) args vs →
    (∀ v H' v' h' tk ad' news', Q v H' → Fr h₀ L h' m → Rp Z h₀ L h' ad' news' H' → Gr ad news ad' news' → Is ad' v v' → R (.ok (.ret v')) { s with heap := h', toks := tk }) →
    codeAny (model Z.prog Z.w) A (.call (.ref fa) ⟨vs, []⟩) R s

theorem CodeOk.call {Z : Wd} {r : Nat} {fa : Addr} {W} (h : CodeOk Z r fa W) : CallOk Z r (.ref fa) W := fun args H Q w A env outer A₀ base h₀ L m s ad news vs Qc Ec h1 h2 h3 h4 h5 h6 h7 h8 F R i k =>
  wpAny_call (h args H Q w A env outer A₀ base h₀ L m s ad news vs _ h1 h2 h3 h4 h5 h6 h7 h8 F R i fun v H' v' h' tk ad' news' q F' R' g i => k v H' v' h' tk ad' news' q F' R' g i)

theorem lookup_of_mem {x : Str} {v : Value} : ∀ {l : List (Str × Value)}, (l.map (·.1)).Nodup → (x, v) ∈ l → l.lookup x = some v
  | p :: r, nd, hm => by
    rw [List.map_cons, List.nodup_cons] at nd
    rw [List.lookup_cons]
    rcases List.mem_cons.mp hm with q | q
    · subst q; simp
    · have : (x == p.1) = false := by
        cases z : (x == p.1) with
        | false => rfl
        | true => exact absurd (List.mem_map_of_mem (f := (·.1)) q) ((eq_of_beq z) ▸ nd.1)
      rw [this]
      exact lookup_of_mem nd.2 q
theorem zip_mem {ks : List Str} {vs : List Value} {n : Nat} {x : Str} {v : Value} : ks[n]? = some x → vs[n]? = some v → (x, v) ∈ ks.zip vs := by
  intro h1 h2
  refine List.mem_iff_getElem?.mpr ⟨n, ?_⟩
  rw [List.getElem?_zip_eq_some]
  exact ⟨h1, h2⟩
theorem zip_sub : ∀ (ks : List Str) (vs : List Value), ((ks.zip vs).map (·.1)).Sublist ks
  | [], vs => by simp
  | k :: ks, [] => by simp
  | k :: ks, v :: vs => by simpa using zip_sub ks vs
theorem lget_app : ∀ (args r : List AV) (n : Nat), n < args.length → lget (args ++ r) n = (args[n]?).getD .undef
  | a :: _, _, 0, _ => by simp [lget]
  | a :: args, r, n + 1, h => by simp at h; simp [lget, lget_app args r n h]
theorem lget_undefs : ∀ (k n : Nat), lget (List.replicate k .undef) n = .undef
  | 0, n => by simp [lget]
  | k + 1, 0 => by simp [List.replicate_succ, lget]
  | k + 1, n + 1 => by simp [List.replicate_succ, lget, lget_undefs k n]
theorem lget_app2 : ∀ (args r : List AV) (n : Nat), args.length ≤ n → lget (args ++ r) n = lget r (n - args.length)
  | [], r, n, _ => by simp
  | a :: args, r, 0, h => by simp at h
  | a :: args, r, n + 1, h => by simp at h; simp [lget, lget_app2 args r n h]

theorem entry_loc {vars : List Str} {ad : List Addr} {np : Nat} {args : List AV} {vs : List Value} (nd : vars.Nodup) (i : All2 (Is ad) args vs) (hl : args.length = np) :
    LocOk vars ad (args ++ List.replicate (vars.length - np) .undef) (fun y => ((vars.take np).zip vs).reverse.lookup y) := by
  intro n x hx
  by_cases hn : n < args.length
  · have ha : args[n]? = some args[n] := List.getElem?_eq_getElem hn
    obtain ⟨v, hv, iv⟩ := i.get ha
    right
    refine ⟨v, ?_, ?_⟩
    · refine lookup_of_mem ?_ (List.mem_reverse.mpr (zip_mem (n := n) ?_ hv))
      · rw [List.map_reverse]
        refine List.pairwise_reverse.mpr (List.Pairwise.imp (fun h => Ne.symm h) (List.Pairwise.sublist ?_ nd))
        exact (zip_sub _ _).trans (List.take_sublist _ _)
      · rw [List.getElem?_take_of_lt (hl ▸ hn)]; exact hx
    · rw [lget_app _ _ _ hn, ha]; exact iv
  · left
    rw [lget_app2 _ _ _ (by omega), lget_undefs]

noncomputable def retOf : AFl → AV
  | .ret v => v
  | _ => .none

noncomputable def retV : Flow → Value
  | .ret v => v
  | _ => .none
theorem ret_is {ad : List Addr} {fl : AFl} {fl' : Flow} (ii : FlIs ad fl fl') : Is ad (retOf fl) (retV fl') := by
  cases fl with
  | next => cases (ii : fl' = _); rfl
  | brk => cases (ii : fl' = _); rfl
  | cont => cases (ii : fl' = _); rfl
  | ret v => obtain ⟨v', rfl, j⟩ := ii; exact j

/-- a def of the text -/
theorem def_ok {Z : Wd} {r : Nat} {O : Orc} {c : Cx} {f : Addr} {name qual : Str} {params : Arguments} {body : List Stmt} {dV kV doc pm cdv ct oc : Value} {an od : Option Addr} {osl : Array (Option Value)} {np : Nat} {b : List S} {W : List AV → Hp → (AV → Hp → Prop) → Prop}
    (ho : Z.K.lookup f = some ⟨oc, od, .func (fnOf name qual params body c.scope dV kV doc pm an cdv ct), osl⟩) (hcd : codeIn Z.K cdv qual = true)
    (hbind : ∀ vs : List Value, vs.length = np → bindArgs (fnOf name qual params body c.scope dV kV doc pm an cdv ct) ⟨vs, []⟩ = pure ((c.vars.take np).zip vs))
    (hloc : ∀ x ∈ c.vars.take np, c.scope.names.lookup x = some .local)
    (hco : c.scope.isCoroutine = false) (hgen : c.scope.isGenerator = false) (hk : c.scope.kind = .function) (hcell : ∀ x ∈ c.scope.names, x.2 ≠ .cell)
    (nd : c.vars.Nodup) (gl : GlobsOk Z c.globs) (ha : c.attrs = Z.attrs) (hc : compSs c body = some b)
    (orc : ∀ f v, Z.ftab[f]? = some v → CallOk Z r v (O f))
    (hW : ∀ args H Q, W args H Q → args.length = np ∧ wSs O b (args ++ List.replicate (c.vars.length - np) .undef) H (fun fl _ H' => Q (retOf fl) H')) : CodeOk Z (r + 1) f W := by
  intro args H Q w A env outer A₀ base h₀ L m s ad news vs R hf hke hA B X T hh hd F Rr i k
  obtain ⟨hl, w⟩ := hW args H Q w
  have hvl : vs.length = np := i.length ▸ hl
  refine code_def B F X Rr.nw T hA hf hke ho hcd (by omega) (BindsTo.of_eq (hbind vs hvl)) (fun y hy => hloc _ (List.of_mem_zip hy).1) (fun g L' h₁ FG F' N' B' X' T' => ?_) hco hgen hk hcell
  have Bm : Fm Z O c r g L' (A.deeper (envOf qual c.scope L' f cdv)) (envOf qual c.scope L' f cdv) := by
    refine ⟨⟨_, _, _, rfl⟩, hk, nd, gl, ha, ⟨env :: outer, A, base, ?_, B'⟩, X', T', hh, ?_, orc⟩
    · show A.frames.map _ = _
      rw [hA]; rfl
    · show A.depth + 1 + 8 * (r + 1) < recursionLimit
      omega
  have R' : Rp Z g L' h₁ ad news H := ⟨N', Rr.nd, Rr.adn, Rr.len, Rr.ob⟩
  refine execs_sound Bm body b hc _ H _ w _ { s with heap := h₁, toks := s.toks + ((c.vars.take np).zip vs).length } ad news _ _ F' R' (entry_loc nd i hl) fun fl l' H' fl' m' h' tk ad' news' q F'' R'' L'' gg ii => ?_
  have iv := ret_is ii
  refine leaveK_ F'' R''.nw fun F₂ N₂ => ?_
  exact k _ H' _ h' tk ad' news' q F₂ ⟨N₂, R''.nd, R''.adn, R''.len, R''.ob⟩ gg iv

/-- a class with an __init__ of the text -/
theorem cls_ok {Z : Wd} {r : Nat} {C fI : Addr} {W : List AV → Hp → (AV → Hp → Prop) → Prop} (hC : C ∈ Z.clss) (hm : makesIn Z.K C = true) (hi : findIn Z.K (.ref C) (Str.ofString "__init__") = some (some (.ref fI))) (hf : isFn Z.K (.ref fI) = true)
    (h : CodeOk Z r fI W) : CallOk Z (r + 1) (.ref C) (fun args H Q => W (.ref (H.length + 1) :: args) (H ++ [.dict [], .inst H.length]) fun v H' => (match v with | .none => Q (.ref (H.length + 1)) H' | _ => False)) := by
  intro args H Q w A env outer A₀ base h₀ L m s ad news vs Qc Ec hfr hke hA B X T hh hd F Rr i k
  refine call_cls F X Rr.nw hm hi hf fun x dx h' F' N' lt l2 => ?_
  have lt1 : ∀ p ∈ (dx, dictOf [] 0) :: news, p.1 < x := fun p hp => by
    rcases List.mem_cons.mp hp with q | q
    · subst q; exact l2
    · exact Nat.lt_trans (lt p q) l2
  -- the dict, then the object
  have Nd : News h₀ L h' ((dx, dictOf [] 0) :: news) := fun p hp => N' p (.tail _ hp)
  obtain ⟨R1, g1, e1⟩ := Rr.push (o := .dict []) Nd lt ⟨[], 0, rfl, .nil⟩
  have hd1 : (ad ++ [dx])[H.length]? = some dx := e1
  obtain ⟨R2, g2, e2⟩ := R1.push (o := .inst H.length) N' lt1 ⟨C, dx, hC, get_app hd1, rfl⟩
  have e2' : (ad ++ [dx] ++ [x])[H.length + 1]? = some x := by
    have : (H ++ [AO.dict []]).length = H.length + 1 := by simp
    rw [this] at e2; exact e2
  have hH : H ++ [AO.dict []] ++ [AO.inst H.length] = H ++ [.dict [], .inst H.length] := by simp
  rw [hH] at R2
  refine h _ _ _ w (A.under (.builtin "type.__call__" ⟨.ref C :: vs, []⟩)) env outer A₀ base h₀ L m { s with heap := h' } _ _ (.ref x :: vs) _ hfr hke ?_ B X T hh ?_ F' R2 (.cons ⟨x, e2', rfl⟩ ((g1.trans g2).all i)) fun v H' v' h'' tk ad' news' q F'' R'' gg iv => ?_
  · exact hA
  · show A.depth + 1 + 8 * (r + 1) < recursionLimit
    omega
  · split at q
    · cases (iv : v' = _)
      refine ⟨rfl, ?_⟩
      obtain ⟨t, rfl⟩ := gg.pre
      exact k _ H' _ h'' tk _ news' q F'' R'' ((g1.trans g2).trans gg) ⟨x, get_app e2', rfl⟩
    · exact q.elim
end Mine

namespace Mine
/-! a run of the compiled text, where all is known: each some of a run gives the predicate transformer -/
noncomputable abbrev RC := Nat → List AV → Hp → Option (AV × Hp)
noncomputable def rInt (op : Operator) (x y : Int) : Option Int := match op with
  | .Add => some (x + y)
  | .Sub => some (x - y)
  | .Mult => if x.natAbs < 2 ^ 64 then some (x * y) else none
  | .FloorDiv => if y.natAbs < 1000000 then (if y = 0 then none else some (x.fdiv y)) else none
  | .Mod => if y = 0 then none else some (x.fmod y)
  | .LShift => if 0 ≤ y then (if y ≤ 1000 then (if x.natAbs < 2 ^ 64 then some (x * 2 ^ y.toNat) else none) else none) else none
  | .RShift => if 0 ≤ y then some (x.fdiv (2 ^ y.toNat)) else none
  | .BitAnd => some (Builtin.bitAnd x y)
  | .BitOr => some (Builtin.bitOr x y)
  | .BitXor => some (Builtin.bitXor x y)
  | _ => none
theorem rInt_ok {op : Operator} {x y r : Int} (h : rInt op x y = some r) {Q : Int → Prop} (q : Q r) : binI op x y Q := by
  unfold rInt at h
  unfold binI
  cases op <;> dsimp only at h ⊢
  case Add => cases h; exact q
  case Sub => cases h; exact q
  case Mult =>
    split at h
    · rename_i a; cases h; exact ⟨.inl a, q⟩
    · cases h
  case Mod =>
    split at h
    · cases h
    · rename_i a; cases h; exact ⟨a, q⟩
  case LShift =>
    split at h
    · rename_i a
      split at h
      · split at h
        · rename_i b c; cases h; exact ⟨⟨a, b, c⟩, q⟩
        · cases h
      · cases h
    · cases h
  case RShift =>
    split at h
    · rename_i a; cases h; exact ⟨a, q⟩
    · cases h
  case FloorDiv =>
    split at h
    · rename_i a
      split at h
      · cases h
      · rename_i b; cases h; exact ⟨⟨b, a⟩, q⟩
    · cases h
  case BitAnd => cases h; exact q
  case BitOr => cases h; exact q
  case BitXor => cases h; exact q
  all_goals cases h
noncomputable def rBin (op : Operator) (a b : AV) (H : Hp) : Option (AV × Hp) := match a, b with
  | .int x, .int y => (rInt op x y).map fun r => (.int r, H)
  | .ref n, .int k => (match op, H[n]? with
      | .Mult, some (.list vs) => if 0 < vs.length then (if 0 ≤ k then (if k ≤ 1000 then (if vs.length ≤ 1000 then some (.ref H.length, H ++ [.list (repA k.toNat vs)]) else none) else none) else none) else none
      | _, _ => none)
  | _, _ => none
theorem rBin_ok {op : Operator} {a b v : AV} {H H' : Hp} (h : rBin op a b H = some (v, H')) {Q : AV → Hp → Prop} (q : Q v H') : wBin op a b H Q := by
  unfold rBin at h
  unfold wBin
  split at h
  · refine msome h ?_; clear h; intro r hr e
    cases e
    exact rInt_ok hr q
  · split at h
    · rename_i e
      (try dsimp only)
      (try rw [e])
      split at h
      · split at h
        · split at h
          · split at h
            · rename_i a b c d; cases h; exact ⟨⟨a, b, c, d⟩, q⟩
            · cases h
          · cases h
        · cases h
      · cases h
    · cases h
  · cases h
noncomputable def rGetA (o : AV) (n : Nat) (H : Hp) : Option AV := match o with
  | .ref k => (match H[k]? with
      | some (.inst d) => (match H[d]? with
          | some (.dict es) => getF n es
          | _ => none)
      | _ => none)
  | _ => none
theorem rGetA_ok {o v : AV} {n : Nat} {H : Hp} (h : rGetA o n H = some v) {Q : AV → Prop} (q : Q v) : wGetA o n H Q := by
  unfold rGetA at h
  unfold wGetA
  split at h
  · split at h
    · rename_i e1; (try dsimp only); (try rw [e1])
      split at h
      · rename_i e2; (try dsimp only); (try rw [e2]); (try dsimp only); rw [h]; exact q
      · cases h
    · cases h
  · cases h
noncomputable def rSetA (o : AV) (n : Nat) (v : AV) (H : Hp) : Option Hp := match o with
  | .ref k => (match H[k]? with
      | some (.inst d) => (match H[d]? with
          | some (.dict es) => if es.length < 900 then some (H.set d (.dict (putF n v es))) else none
          | _ => none)
      | _ => none)
  | _ => none
theorem rSetA_ok {o v : AV} {n : Nat} {H H' : Hp} (h : rSetA o n v H = some H') {Q : Hp → Prop} (q : Q H') : wSetA o n v H Q := by
  unfold rSetA at h
  unfold wSetA
  split at h
  · split at h
    · rename_i e1; (try dsimp only); (try rw [e1])
      split at h
      · rename_i e2; (try dsimp only); (try rw [e2]); (try dsimp only)
        split at h
        · rename_i a; cases h; exact ⟨a, q⟩
        · cases h
      · cases h
    · cases h
  · cases h
noncomputable def rGetI (o i : AV) (H : Hp) : Option AV := match o, i with
  | .ref k, .int x => (match H[k]? with
      | some (.list vs) => if 0 ≤ x then (if x < 1000 then vs[x.toNat]? else none) else none
      | some (.tup vs) => if 0 ≤ x then (if x < 1000 then vs[x.toNat]? else none) else none
      | _ => none)
  | _, _ => none
theorem rGetI_ok {o i v : AV} {H : Hp} (h : rGetI o i H = some v) {Q : AV → Prop} (q : Q v) : wGetI o i H Q := by
  unfold rGetI at h
  unfold wGetI
  split at h
  · split at h
    · rename_i e1; (try dsimp only); (try rw [e1])
      split at h
      · split at h
        · rename_i a b; exact ⟨⟨a, b⟩, by rw [h]; exact q⟩
        · cases h
      · cases h
    · rename_i e1; (try dsimp only); (try rw [e1])
      split at h
      · split at h
        · rename_i a b; exact ⟨⟨a, b⟩, by rw [h]; exact q⟩
        · cases h
      · cases h
    · cases h
  · cases h
noncomputable def rSetI (o i v : AV) (H : Hp) : Option Hp := match o, i with
  | .ref k, .int x => (match H[k]? with
      | some (.list vs) => if 0 ≤ x then (if x < 1000 then (if x.toNat < vs.length then some (H.set k (.list (vs.set x.toNat v))) else none) else none) else none
      | _ => none)
  | _, _ => none
theorem rSetI_ok {o i v : AV} {H H' : Hp} (h : rSetI o i v H = some H') {Q : Hp → Prop} (q : Q H') : wSetI o i v H Q := by
  unfold rSetI at h
  unfold wSetI
  split at h
  · split at h
    · rename_i e1; (try dsimp only); (try rw [e1])
      split at h
      · split at h
        · split at h
          · rename_i a b c; cases h; exact ⟨⟨a, b, c⟩, q⟩
          · cases h
        · cases h
      · cases h
    · cases h
  · cases h
noncomputable def rApp (o v : AV) (H : Hp) : Option Hp := match o with
  | .ref k => (match H[k]? with
      | some (.list vs) => if vs.length < 1000 then some (H.set k (.list (vs ++ [v]))) else none
      | _ => none)
  | _ => none
theorem rApp_ok {o v : AV} {H H' : Hp} (h : rApp o v H = some H') {Q : Hp → Prop} (q : Q H') : wApp o v H Q := by
  unfold rApp at h
  unfold wApp
  split at h
  · split at h
    · rename_i e1; (try dsimp only); (try rw [e1])
      split at h
      · rename_i a; cases h; exact ⟨a, q⟩
      · cases h
    · cases h
  · cases h
noncomputable def rVar (l : List AV) (n : Nat) : Option AV := match lget l n with
  | .undef => none
  | v => some v
theorem rVar_ok {l : List AV} {n : Nat} {v : AV} (h : rVar l n = some v) {Q : AV → Prop} (q : Q v) : wVar l n Q := by
  unfold rVar at h
  unfold wVar
  split at h
  · cases h
  · rename_i hh
    cases h
    first
      | exact q
      | (split
         · rename_i z; exact absurd z hh
         · exact q)
noncomputable def isListA (x : AV) (H : Hp) : Bool := match x with
  | .ref k => (match H[k]? with | some (.list _) => true | _ => false)
  | _ => false

mutual
noncomputable def rE (C : RC) (l : List AV) : E → Hp → Option (AV × Hp)
  | .const v, H => some (v, H)
  | .var n, H => (rVar l n).map fun v => (v, H)
  | .bin op a b, H => (rE C l a H).bind fun x => (rE C l b x.2).bind fun y => rBin op x.1 y.1 y.2
  | .neg a, H => (rE C l a H).bind fun x => match x.1 with | .int i => some (.int (-i), x.2) | _ => none
  | .inv a, H => (rE C l a H).bind fun x => match x.1 with | .int i => some (.int (Builtin.bitNot i), x.2) | _ => none
  | .not a, H => (rE C l a H).bind fun x => (truthA x.1).map fun c => (.bool (!c), x.2)
  | .cmp op a b, H => (rE C l a H).bind fun x => (rE C l b x.2).bind fun y => (cmpA op x.1 y.1).map fun c => (.bool c, y.2)
  | .chain .., _ => none
  | .and a b, H => (rE C l a H).bind fun x => (truthA x.1).bind fun c => if c then rE C l b x.2 else some x
  | .or a b, H => (rE C l a H).bind fun x => (truthA x.1).bind fun c => if c then some x else rE C l b x.2
  | .ite t a b, H => (rE C l t H).bind fun x => (truthA x.1).bind fun c => if c then rE C l a x.2 else rE C l b x.2
  | .call f as, H => (rEs C l as H).bind fun x => C f x.1 x.2
  | .attr a n, H => (rE C l a H).bind fun x => (rGetA x.1 n x.2).map fun v => (v, x.2)
  | .sub a i, H => (rE C l a H).bind fun x => (rE C l i x.2).bind fun y => (rGetI x.1 y.1 y.2).map fun v => (v, y.2)
  | .tab ns i, H => (rE C l i H).bind fun y => match y.1 with
      | .int x => if 0 ≤ x then (if x < 1000 then (ns[x.toNat]?).map fun v => (.int v, y.2) else none) else none
      | _ => none
  | .list es, H => (rEs C l es H).bind fun x => if x.1.length ≤ 1000 then some (.ref x.2.length, x.2 ++ [.list x.1]) else none
  | .tup es, H => (rEs C l es H).bind fun x => if x.1.length ≤ 1000 then some (.ref x.2.length, x.2 ++ [.tup x.1]) else none
  | .app a e, H => (rE C l a H).bind fun x => if isListA x.1 x.2 then (rE C l e x.2).bind fun y => (rApp x.1 y.1 y.2).map fun H => (.none, H) else none
  | .len _, _ => none
  | .copy _, _ => none
  | .range as, H => (rEs C l as H).bind fun x => (rangeA x.1).bind fun p => if p.2.2.natAbs < 1000 then (if p.2.2 = 0 then none else some (.ref x.2.length, x.2 ++ [.range p.1 p.2.1 p.2.2])) else none
noncomputable def rEs (C : RC) (l : List AV) : List E → Hp → Option (List AV × Hp)
  | [], H => some ([], H)
  | e :: r, H => (rE C l e H).bind fun x => (rEs C l r x.2).bind fun y => some (x.1 :: y.1, y.2)
end
section
variable {C : RC} {O : Orc} {l : List AV} (hC : ∀ f args H v H', C f args H = some (v, H') → ∀ Q : AV → Hp → Prop, Q v H' → O f args H Q)
include hC
mutual
theorem rE_ok : ∀ (e : E) (H : Hp) (v : AV) (H' : Hp), rE C l e H = some (v, H') → ∀ Q : AV → Hp → Prop, Q v H' → wE O l e H Q
  | .const c, H, v, H', h, Q, q => by rw [rE] at h; cases h; rw [wE]; exact q
  | .var n, H, v, H', h, Q, q => by
    rw [rE] at h; rw [wE]
    refine msome h ?_; clear h; intro x hx e
    cases e; exact rVar_ok hx q
  | .bin op a b, H, v, H', h, Q, q => by
    rw [rE] at h; rw [wE]
    refine bsome h ?_; clear h; intro x hx h
    refine bsome h ?_; clear h; intro y hy h
    exact rE_ok a H _ _ hx _ (rE_ok b _ _ _ hy _ (rBin_ok h q))
  | .neg a, H, v, H', h, Q, q => by
    rw [rE] at h; rw [wE]
    refine bsome h ?_; clear h; intro x hx h
    obtain ⟨x1, x2⟩ := x
    refine rE_ok a H _ _ hx _ ?_
    dsimp only at h
    split at h
    · cases h; exact q
    · cases h
  | .inv a, H, v, H', h, Q, q => by
    rw [rE] at h; rw [wE]
    refine bsome h ?_; clear h; intro x hx h
    obtain ⟨x1, x2⟩ := x
    refine rE_ok a H _ _ hx _ ?_
    dsimp only at h
    split at h
    · cases h; exact q
    · cases h
  | .not a, H, v, H', h, Q, q => by
    rw [rE] at h; rw [wE]
    refine bsome h ?_; clear h; intro x hx h
    refine msome h ?_; clear h; intro c hc e
    cases e
    refine rE_ok a H _ _ hx _ ?_
    (try dsimp only)
    rw [hc]; exact q
  | .cmp op a b, H, v, H', h, Q, q => by
    rw [rE] at h; rw [wE]
    refine bsome h ?_; clear h; intro x hx h
    refine bsome h ?_; clear h; intro y hy h
    refine msome h ?_; clear h; intro c hc e
    cases e
    refine rE_ok a H _ _ hx _ (rE_ok b _ _ _ hy _ ?_)
    (try dsimp only)
    rw [hc]; exact q
  | .chain _ _ _ _ _, H, v, H', h, Q, q => by rw [rE] at h; cases h
  | .and a b, H, v, H', h, Q, q => by
    rw [rE] at h; rw [wE]
    refine bsome h ?_; clear h; intro x hx h
    refine bsome h ?_; clear h; intro c hc h
    refine rE_ok a H _ _ hx _ ?_
    (try dsimp only)
    rw [hc]
    cases c with
    | true => rw [if_pos rfl] at h; exact rE_ok b _ _ _ h _ q
    | false => rw [if_neg (by simp)] at h; cases h; exact q
  | .or a b, H, v, H', h, Q, q => by
    rw [rE] at h; rw [wE]
    refine bsome h ?_; clear h; intro x hx h
    refine bsome h ?_; clear h; intro c hc h
    refine rE_ok a H _ _ hx _ ?_
    (try dsimp only)
    rw [hc]
    cases c with
    | false => rw [if_neg (by simp)] at h; exact rE_ok b _ _ _ h _ q
    | true => rw [if_pos rfl] at h; cases h; exact q
  | .ite t a b, H, v, H', h, Q, q => by
    rw [rE] at h; rw [wE]
    refine bsome h ?_; clear h; intro x hx h
    refine bsome h ?_; clear h; intro c hc h
    refine rE_ok t H _ _ hx _ ?_
    (try dsimp only)
    rw [hc]
    cases c with
    | false => rw [if_neg (by simp)] at h; exact rE_ok b _ _ _ h _ q
    | true => rw [if_pos rfl] at h; exact rE_ok a _ _ _ h _ q
  | .call f as, H, v, H', h, Q, q => by
    rw [rE] at h; rw [wE]
    refine bsome h ?_; clear h; intro x hx h
    exact rEs_ok as H _ _ hx _ (hC _ _ _ _ _ h _ q)
  | .attr a n, H, v, H', h, Q, q => by
    rw [rE] at h; rw [wE]
    refine bsome h ?_; clear h; intro x hx h
    refine msome h ?_; clear h; intro c hc e
    cases e
    exact rE_ok a H _ _ hx _ (rGetA_ok hc q)
  | .sub a i, H, v, H', h, Q, q => by
    rw [rE] at h; rw [wE]
    refine bsome h ?_; clear h; intro x hx h
    refine bsome h ?_; clear h; intro y hy h
    refine msome h ?_; clear h; intro c hc e
    cases e
    exact rE_ok a H _ _ hx _ (rE_ok i _ _ _ hy _ (rGetI_ok hc q))
  | .tab ns i, H, v, H', h, Q, q => by
    rw [rE] at h; rw [wE]
    refine bsome h ?_; clear h; intro x hx h
    obtain ⟨x1, x2⟩ := x
    refine rE_ok i H _ _ hx _ ?_
    dsimp only at h
    split at h
    · split at h
      · split at h
        · rename_i a b
          refine msome h ?_; clear h; intro c hc e
          cases e
          exact ⟨⟨a, b⟩, by rw [hc]; exact q⟩
        · cases h
      · cases h
    · cases h
  | .list es, H, v, H', h, Q, q => by
    rw [rE] at h; rw [wE]
    refine bsome h ?_; clear h; intro x hx h
    refine rEs_ok es H _ _ hx _ ?_
    split at h
    · rename_i a; cases h; exact ⟨a, q⟩
    · cases h
  | .tup es, H, v, H', h, Q, q => by
    rw [rE] at h; rw [wE]
    refine bsome h ?_; clear h; intro x hx h
    refine rEs_ok es H _ _ hx _ ?_
    split at h
    · rename_i a; cases h; exact ⟨a, q⟩
    · cases h
  | .app a e, H, v, H', h, Q, q => by
    rw [rE] at h; rw [wE]
    refine bsome h ?_; clear h; intro x hx h
    obtain ⟨x1, x2⟩ := x
    refine rE_ok a H _ _ hx _ ?_
    dsimp only at h
    split at h
    · rename_i hl
      refine bsome h ?_; clear h; intro y hy h
      refine msome h ?_; clear h; intro c hc e
      cases e
      unfold isListA at hl
      split at hl
      · split at hl
        · rename_i e1
          (try dsimp only)
          (try rw [e1])
          exact rE_ok _ _ _ _ hy _ (rApp_ok hc q)
        · cases hl
      · cases hl
    · cases h
  | .len _, H, v, H', h, Q, q => by rw [rE] at h; cases h
  | .copy _, H, v, H', h, Q, q => by rw [rE] at h; cases h
  | .range as, H, v, H', h, Q, q => by
    rw [rE] at h; rw [wE]
    refine bsome h ?_; clear h; intro x hx h
    refine bsome h ?_; clear h; intro p hp h
    obtain ⟨p1, p2, p3⟩ := p
    refine rEs_ok as H _ _ hx _ ?_
    (try dsimp only)
    rw [hp]
    dsimp only at h
    split at h
    · split at h
      · cases h
      · rename_i a b; cases h; exact ⟨⟨a, b⟩, q⟩
    · cases h
theorem rEs_ok : ∀ (es : List E) (H : Hp) (v : List AV) (H' : Hp), rEs C l es H = some (v, H') → ∀ Q : List AV → Hp → Prop, Q v H' → wEs O l es H Q
  | [], H, v, H', h, Q, q => by rw [rEs] at h; cases h; rw [wEs]; exact q
  | e :: r, H, v, H', h, Q, q => by
    rw [rEs] at h; rw [wEs]
    refine bsome h ?_; clear h; intro x hx h
    refine bsome h ?_; clear h; intro y hy h
    cases h
    exact rE_ok e H _ _ hx _ (rEs_ok r _ _ _ hy _ q)
end
end

/-- a test: by its value -/
noncomputable def rT (C : RC) (l : List AV) : E → Hp → Option (Bool × Hp)
  | .not a, H => (rT C l a H).map fun c => (!c.1, c.2)
  | .and a b, H => (rT C l a H).bind fun c => if c.1 then rT C l b c.2 else some c
  | .or a b, H => (rT C l a H).bind fun c => if c.1 then some c else rT C l b c.2
  | e, H => (rE C l e H).bind fun x => (truthA x.1).map fun c => (c, x.2)
theorem rT_plain {C : RC} {O : Orc} {l : List AV} (hC : ∀ f args H v H', C f args H = some (v, H') → ∀ Q : AV → Hp → Prop, Q v H' → O f args H Q) (e : E) (H : Hp) (c : Bool) (H' : Hp) (h : ((rE C l e H).bind fun x => (truthA x.1).map fun c => (c, x.2)) = some (c, H')) (Q : Bool → Hp → Prop) (q : Q c H') : wE O l e H fun x H => match truthA x with | some c => Q c H | none => False := by
  refine bsome h ?_; clear h; intro x hx h
  refine msome h ?_; clear h; intro c' hc e'
  cases e'
  refine rE_ok hC e H _ _ hx _ ?_
  (try dsimp only)
  rw [hc]; exact q
theorem rT_ok {C : RC} {O : Orc} {l : List AV} (hC : ∀ f args H v H', C f args H = some (v, H') → ∀ Q : AV → Hp → Prop, Q v H' → O f args H Q) : ∀ (e : E) (H : Hp) (c : Bool) (H' : Hp), rT C l e H = some (c, H') → ∀ Q : Bool → Hp → Prop, Q c H' → wT O l e H Q
  | .not a, H, c, H', h, Q, q => by
    rw [rT] at h; rw [wT]
    refine msome h ?_; clear h; intro x hx e'
    cases e'
    exact rT_ok hC a H _ _ hx _ q
  | .and a b, H, c, H', h, Q, q => by
    rw [rT] at h; rw [wT]
    refine bsome h ?_; clear h; intro x hx h
    obtain ⟨x1, x2⟩ := x
    refine rT_ok hC a H _ _ hx _ ?_
    dsimp only at h
    cases x1 with
    | true => rw [if_pos rfl] at h; exact rT_ok hC b _ _ _ h _ q
    | false => rw [if_neg (by simp)] at h; cases h; exact q
  | .or a b, H, c, H', h, Q, q => by
    rw [rT] at h; rw [wT]
    refine bsome h ?_; clear h; intro x hx h
    obtain ⟨x1, x2⟩ := x
    refine rT_ok hC a H _ _ hx _ ?_
    dsimp only at h
    cases x1 with
    | false => rw [if_neg (by simp)] at h; exact rT_ok hC b _ _ _ h _ q
    | true => rw [if_pos rfl] at h; cases h; exact q
  | .const _, H, c, H', h, Q, q => rT_plain hC _ H c H' h Q q
  | .var _, H, c, H', h, Q, q => rT_plain hC _ H c H' h Q q
  | .bin _ _ _, H, c, H', h, Q, q => rT_plain hC _ H c H' h Q q
  | .neg _, H, c, H', h, Q, q => rT_plain hC _ H c H' h Q q
  | .inv _, H, c, H', h, Q, q => rT_plain hC _ H c H' h Q q
  | .cmp _ _ _, H, c, H', h, Q, q => rT_plain hC _ H c H' h Q q
  | .chain _ _ _ _ _, H, c, H', h, Q, q => rT_plain hC _ H c H' h Q q
  | .ite _ _ _, H, c, H', h, Q, q => rT_plain hC _ H c H' h Q q
  | .call _ _, H, c, H', h, Q, q => rT_plain hC _ H c H' h Q q
  | .attr _ _, H, c, H', h, Q, q => rT_plain hC _ H c H' h Q q
  | .sub _ _, H, c, H', h, Q, q => rT_plain hC _ H c H' h Q q
  | .tab _ _, H, c, H', h, Q, q => rT_plain hC _ H c H' h Q q
  | .list _, H, c, H', h, Q, q => rT_plain hC _ H c H' h Q q
  | .tup _, H, c, H', h, Q, q => rT_plain hC _ H c H' h Q q
  | .app _ _, H, c, H', h, Q, q => rT_plain hC _ H c H' h Q q
  | .len _, H, c, H', h, Q, q => rT_plain hC _ H c H' h Q q
  | .copy _, H, c, H', h, Q, q => rT_plain hC _ H c H' h Q q
  | .range _, H, c, H', h, Q, q => rT_plain hC _ H c H' h Q q

noncomputable abbrev RS := List AV → Hp → Option (AFl × List AV × Hp)
noncomputable def rWh (T : List AV → Hp → Option (Bool × Hp)) (B : RS) : Nat → RS
  | 0, _, _ => none
  | n + 1, l, H => (T l H).bind fun c => if c.1 then (B l c.2).bind fun x => (match x.1 with | .next => rWh T B n x.2.1 x.2.2 | .cont => rWh T B n x.2.1 x.2.2 | .brk => some (.next, x.2.1, x.2.2) | .ret v => some (.ret v, x.2.1, x.2.2)) else some (.next, l, c.2)
noncomputable def rFor (B : RS) (x : Nat) : List AV → RS
  | [], l, H => some (.next, l, H)
  | v :: r, l, H => (B (lset l x v) H).bind fun y => match y.1 with | .next => rFor B x r y.2.1 y.2.2 | .cont => rFor B x r y.2.1 y.2.2 | .brk => some (.next, y.2.1, y.2.2) | .ret v => some (.ret v, y.2.1, y.2.2)
noncomputable def okRange (a b c : Int) : Bool := decide (a.natAbs < 1000) && decide (b.natAbs < 1000) && (decide (c = 1) || decide (c = -1))
theorem okRange_ok {a b c : Int} (h : okRange a b c = true) : rangeOk a b c := by
  unfold okRange at h
  simp only [Bool.and_eq_true, Bool.or_eq_true, decide_eq_true_eq] at h
  exact ⟨h.1.1, h.1.2, h.2⟩
mutual
noncomputable def rS (C : RC) : S → RS
  | .assign n e => fun l H => (rE C l e H).map fun x => (.next, lset l n x.1, x.2)
  | .attrSet o n e => fun l H => (rE C l e H).bind fun v => (rE C l o v.2).bind fun ov => (rSetA ov.1 n v.1 ov.2).map fun H => (.next, l, H)
  | .subSet o i e => fun l H => (rE C l e H).bind fun v => (rE C l o v.2).bind fun ov => (rE C l i ov.2).bind fun iv => (rSetI ov.1 iv.1 v.1 iv.2).map fun H => (.next, l, H)
  | .augN n op e => fun l H => (rVar l n).bind fun old => (rE C l e H).bind fun v => (match old, v.1 with | .int x, .int y => (rInt op x y).map fun r => (.next, lset l n (.int r), v.2) | _, _ => none)
  | .augS o i op e => fun l H => (rE C l o H).bind fun ov => (rE C l i ov.2).bind fun iv => (rGetI ov.1 iv.1 iv.2).bind fun old => (rE C l e iv.2).bind fun v => (match old, v.1 with | .int x, .int y => (rInt op x y).bind fun r => (rSetI ov.1 iv.1 (.int r) v.2).map fun H => (.next, l, H) | _, _ => none)
  | .expr e => fun l H => (rE C l e H).map fun x => (.next, l, x.2)
  | .ret e => fun l H => (rE C l e H).map fun x => (.ret x.1, l, x.2)
  | .ife t a b => fun l H => (rT C l t H).bind fun c => if c.1 then rSs C a l c.2 else rSs C b l c.2
  | .loop t b => fun l H => rWh (fun l H => rT C l t H) (rSs C b) 12 l H
  | .forR x as b => fun l H => (rEs C l as H).bind fun vs => (rangeA vs.1).bind fun p => if okRange p.1 p.2.1 p.2.2 then rFor (rSs C b) x (rangeVals p.1 p.2.1 p.2.2) l vs.2 else none
  | .forV x e b => fun l H => (rE C l e H).bind fun v => (match v.1 with
      | .ref k => (match v.2[k]? with
          | some (.range a d c) => if okRange a d c then rFor (rSs C b) x (rangeVals a d c) l v.2 else none
          | _ => none)
      | _ => none)
  | .assign2 _ _ _ _ => fun _ _ => none
  | .assign3 _ _ _ _ _ _ => fun _ _ => none
  | .augA _ _ _ _ => fun _ _ => none
  | .fail => fun _ _ => none
noncomputable def rSs (C : RC) : List S → RS
  | [] => fun l H => some (.next, l, H)
  | s :: r => fun l H => (rS C s l H).bind fun x => match x.1 with | .next => rSs C r x.2.1 x.2.2 | fl => some (fl, x.2.1, x.2.2)
end
noncomputable def TrOk (W : Tr) (f : RS) : Prop := ∀ l H fl l' H', f l H = some (fl, l', H') → ∀ Q : Cont, Q fl l' H' → W l H Q
theorem rWh_ok {T : List AV → Hp → Option (Bool × Hp)} {T' : List AV → Hp → (Bool → Hp → Prop) → Prop} {B : RS} {W : Tr} (hT : ∀ l H c H', T l H = some (c, H') → ∀ Q : Bool → Hp → Prop, Q c H' → T' l H Q) (hB : TrOk W B) : ∀ n, TrOk (wWh T' W n) (rWh T B n)
  | 0 => fun l H fl l' H' h => by cases h
  | n + 1 => fun l H fl l' H' h Q q => by
    rw [rWh] at h; rw [wWh]
    refine bsome h ?_; clear h; intro x hx h
    obtain ⟨x1, x2⟩ := x
    refine hT l H _ _ hx _ ?_
    dsimp only at h
    cases x1 with
    | true =>
      rw [if_pos rfl] at h
      refine bsome h ?_; clear h; intro y hy h
      obtain ⟨y1, y2, y3⟩ := y
      refine hB l x2 _ _ _ hy _ ?_
      cases y1 with
      | next => exact rWh_ok hT hB n _ _ _ _ _ h _ q
      | cont => exact rWh_ok hT hB n _ _ _ _ _ h _ q
      | brk => cases h; exact q
      | ret v => cases h; exact q
    | false => rw [if_neg (by simp)] at h; cases h; exact q
theorem rFor_ok {B : RS} {W : Tr} {x : Nat} (hB : TrOk W B) : ∀ vs, TrOk (wFor (fun _ => True) W x vs) (rFor B x vs)
  | [] => fun l H fl l' H' h Q q => by rw [rFor] at h; cases h; rw [wFor]; exact ⟨trivial, q⟩
  | v :: r => fun l H fl l' H' h Q q => by
    rw [rFor] at h; rw [wFor]
    refine bsome h ?_; clear h; intro y hy h
    obtain ⟨y1, y2, y3⟩ := y
    refine ⟨trivial, hB _ _ _ _ _ hy _ ?_⟩
    cases y1 with
    | next => exact rFor_ok hB r _ _ _ _ _ h _ q
    | cont => exact rFor_ok hB r _ _ _ _ _ h _ q
    | brk => cases h; exact q
    | ret v => cases h; exact q
section
variable {C : RC} {O : Orc} (hC : ∀ f args H v H', C f args H = some (v, H') → ∀ Q : AV → Hp → Prop, Q v H' → O f args H Q)
include hC
mutual
theorem rS_ok : ∀ (s : S), TrOk (wS O s) (rS C s)
  | .assign n e => fun l H fl l' H' h Q q => by
    rw [rS] at h; rw [wS]
    refine msome h ?_; clear h; intro x hx e'
    cases e'; exact rE_ok hC e H _ _ hx _ q
  | .assign2 _ _ _ _ => fun l H fl l' H' h Q q => by rw [rS] at h; cases h
  | .assign3 _ _ _ _ _ _ => fun l H fl l' H' h Q q => by rw [rS] at h; cases h
  | .attrSet o n e => fun l H fl l' H' h Q q => by
    rw [rS] at h; rw [wS]
    refine bsome h ?_; clear h; intro v hv h
    refine bsome h ?_; clear h; intro ov ho h
    refine msome h ?_; clear h; intro x hx e'
    cases e'
    exact rE_ok hC e H _ _ hv _ (rE_ok hC o _ _ _ ho _ (rSetA_ok hx q))
  | .subSet o i e => fun l H fl l' H' h Q q => by
    rw [rS] at h; rw [wS]
    refine bsome h ?_; clear h; intro v hv h
    refine bsome h ?_; clear h; intro ov ho h
    refine bsome h ?_; clear h; intro iv hi h
    refine msome h ?_; clear h; intro x hx e'
    cases e'
    exact rE_ok hC e H _ _ hv _ (rE_ok hC o _ _ _ ho _ (rE_ok hC i _ _ _ hi _ (rSetI_ok hx q)))
  | .augN n op e => fun l H fl l' H' h Q q => by
    rw [rS] at h; rw [wS]
    refine bsome h ?_; clear h; intro old ho h
    refine bsome h ?_; clear h; intro v hv h
    obtain ⟨v1, v2⟩ := v
    refine rVar_ok ho (rE_ok hC e H _ _ hv _ ?_)
    dsimp only at h
    split at h
    · refine msome h ?_; clear h; intro x hx e'
      cases e'
      exact rInt_ok hx q
    · cases h
  | .augA _ _ _ _ => fun l H fl l' H' h Q q => by rw [rS] at h; cases h
  | .augS o i op e => fun l H fl l' H' h Q q => by
    rw [rS] at h; rw [wS]
    refine bsome h ?_; clear h; intro ov ho h
    refine bsome h ?_; clear h; intro iv hi h
    refine bsome h ?_; clear h; intro old hg h
    refine bsome h ?_; clear h; intro v hv h
    obtain ⟨v1, v2⟩ := v
    refine rE_ok hC o H _ _ ho _ (rE_ok hC i _ _ _ hi _ (rGetI_ok hg (rE_ok hC e _ _ _ hv _ ?_)))
    dsimp only at h
    split at h
    · refine bsome h ?_; clear h; intro x hx h
      refine msome h ?_; clear h; intro y hy e'
      cases e'
      exact rInt_ok hx (rSetI_ok hy q)
    · cases h
  | .expr e => fun l H fl l' H' h Q q => by
    rw [rS] at h; rw [wS]
    refine msome h ?_; clear h; intro x hx e'
    cases e'; exact rE_ok hC e H _ _ hx _ q
  | .ret e => fun l H fl l' H' h Q q => by
    rw [rS] at h; rw [wS]
    refine msome h ?_; clear h; intro x hx e'
    cases e'; exact rE_ok hC e H _ _ hx _ q
  | .fail => fun l H fl l' H' h Q q => by rw [rS] at h; cases h
  | .ife t a b => fun l H fl l' H' h Q q => by
    rw [rS] at h; rw [wS]
    refine bsome h ?_; clear h; intro c hc h
    obtain ⟨c1, c2⟩ := c
    refine rT_ok hC t H _ _ hc _ ?_
    dsimp only at h
    cases c1 with
    | true => rw [if_pos rfl] at h; exact rSs_ok a _ _ _ _ _ h _ q
    | false => rw [if_neg (by simp)] at h; exact rSs_ok b _ _ _ _ _ h _ q
  | .loop t b => fun l H fl l' H' h Q q => by
    rw [rS] at h; rw [wS]
    exact ⟨12, rWh_ok (fun l H c H' h Q q => rT_ok hC t H c H' h Q q) (rSs_ok b) 12 l H _ _ _ h _ q⟩
  | .forR x as b => fun l H fl l' H' h Q q => by
    rw [rS] at h; rw [wS]
    refine bsome h ?_; clear h; intro vs hv h
    refine bsome h ?_; clear h; intro p hp h
    obtain ⟨p1, p2, p3⟩ := p
    refine rEs_ok hC as H _ _ hv _ ?_
    (try dsimp only)
    rw [hp]
    dsimp only at h
    split at h
    · rename_i a; exact ⟨okRange_ok a, rFor_ok (rSs_ok b) _ _ _ _ _ _ h _ q⟩
    · cases h
  | .forV x e b => fun l H fl l' H' h Q q => by
    rw [rS] at h; rw [wS]
    refine bsome h ?_; clear h; intro v hv h
    obtain ⟨v1, v2⟩ := v
    refine rE_ok hC e H _ _ hv _ ?_
    dsimp only at h
    split at h
    · split at h
      · rename_i e1
        split at h
        · rename_i a
          unfold wIter
          (try dsimp only)
          (try rw [e1])
          exact ⟨okRange_ok a, rFor_ok (rSs_ok b) _ _ _ _ _ _ h _ q⟩
        · cases h
      · cases h
    · cases h
theorem rSs_ok : ∀ (ss : List S), TrOk (wSs O ss) (rSs C ss)
  | [] => fun l H fl l' H' h Q q => by rw [rSs] at h; cases h; rw [wSs]; exact q
  | s :: r => fun l H fl l' H' h Q q => by
    rw [rSs] at h; rw [wSs]
    refine bsome h ?_; clear h; intro x hx h
    obtain ⟨x1, x2, x3⟩ := x
    refine rS_ok s _ _ _ _ _ hx _ ?_
    cases x1 with
    | next => exact rSs_ok r _ _ _ _ _ h _ q
    | cont => cases h; exact q
    | brk => cases h; exact q
    | ret v => cases h; exact q
end
end
end Mine

namespace Mine
/-! the head: the text's top, run once on a tree of objects by the library's fast twins -/
noncomputable abbrev pw : Program := PySem.Challenge.pw_sa0132_01
noncomputable def topRunQ (p : Program) (w : World) (n₀ : Nat) (ann : Option Value) : Nat → SharedT → Thread → Option SharedT
  | 0, _, _ => none
  | n + 1, s, t => match through t with
    | true => some s
    | false => match PySem.W.Fast.tw6613529449190102663 n₀ ann t with
      | false => none
      | true => match PySem.W.Fast.tw10156331382660048174 (PySem.W.Fast.tw11892475500146522536 PySem.W.Fast.tw14364793385576792824) p w s t with
        | some (s', t') => topRunQ p w n₀ ann n s' t'
        | none => none
theorem topQ_of {p : Program} {w : World} {n₀ : Nat} {ann : Option Value} : ∀ {n : Nat} {s s' : SharedT} {t : Thread}, topRunQ p w n₀ ann n s t = some s' → topRun treeTable p w n₀ ann n s.abs t = some s'.abs
  | 0, _, _, _, h => by cases h
  | n + 1, s, s', t, h => by
    unfold topRunQ at h
    unfold topRun
    rw [← PySem.W.Fast.te6613529449190102663, ← PySem.W.Fast.te10156331382660048174, ← PySem.W.Fast.te11892475500146522536, ← PySem.W.Fast.te14364793385576792824] at h
    cases ht : through t with
    | true => rw [ht] at h; cases h; rfl
    | false =>
      rw [ht] at h
      cases hk : stepOk n₀ ann t with
      | false => rw [hk] at h; cases h
      | true =>
        rw [hk] at h
        cases hs : stepT (denote treeTable) p w s t with
        | none => rw [hs] at h; cases h
        | some r => obtain ⟨s₂, t₂⟩ := r; rw [hs] at h; dsimp only; rw [stepT_spec hs]; exact topQ_of h
noncomputable def treeOf (l : List Obj) : BT := (l.foldl (fun (p : BT × Nat) o => (p.1.ins p.2 o, p.2 + 1)) (BT.nil, 0)).1
noncomputable def S0 (w : World) (os : OsState) : SharedT := ⟨treeOf (boot_heap w.params).objs.toList, 11, {}, #[], boot_drawn, boot_toks, os⟩
noncomputable def theRun (w : World) (os : OsState) : Option SharedT := topRunQ pw w 11 (some (.ref 6)) 6000 (S0 w os) (topStub pw)
theorem boot_abs (P : Params) : absHeap (treeOf (boot_heap P).objs.toList) 11 {} = boot_heap P := by kernel_rfl
theorem boot_looks (P : Params) : ((boot_heap P).isNs mainGlobals, (boot_heap P).objs.size, (boot_heap P).nsMap mainGlobals "__annotations__") = (true, 11, some (.ref 6)) := by kernel_rfl
/-- of the statements the world's facts speak of the law's own def alone; the other names are loose -/
noncomputable def qV : Program := PySem.W.view pw [69]
noncomputable def looseL : List Str := [Str.ofString "WHITE", Str.ofString "BLACK", Str.ofString "PAWN", Str.ofString "KNIGHT", Str.ofString "BISHOP", Str.ofString "ROOK", Str.ofString "QUEEN", Str.ofString "KING", Str.ofString "EMPTY", Str.ofString "make_piece", Str.ofString "side_of", Str.ofString "kind_of", Str.ofString "highest", Str.ofString "lowest", Str.ofString "squares_of", Str.ofString "ChessError", Str.ofString "STEP_FILES", Str.ofString "STEP_RANKS", Str.ofString "Geometry", Str.ofString "is_growing", Str.ofString "add_masks", Str.ofString "inner_squares", Str.ofString "add_rays", Str.ofString "add_pawns", Str.ofString "add_knights", Str.ofString "add_castles", Str.ofString "make_geometry", Str.ofString "ray_attacks", Str.ofString "rook_attacks", Str.ofString "bishop_attacks", Str.ofString "queen_attacks", Str.ofString "slider_attacks", Str.ofString "piece_attacks", Str.ofString "Position", Str.ofString "put_piece", Str.ofString "take_piece", Str.ofString "shift_piece", Str.ofString "occupied", Str.ofString "king_square", Str.ofString "copy_position", Str.ofString "straight_sliders", Str.ofString "slanting_sliders", Str.ofString "pawn_attackers", Str.ofString "step_attackers", Str.ofString "line_attackers", Str.ofString "attackers_to", Str.ofString "is_attacked", Str.ofString "checkers_of", Str.ofString "checkers", Str.ofString "in_check_of", Str.ofString "in_check", Str.ofString "covered_by", Str.ofString "attacked_by", Str.ofString "forbidden_to_king", Str.ofString "king_flights", Str.ofString "Zobrist", Str.ofString "_law_tally", Str.ofString "_law_board", Str.ofString "_law_is_safe"]
noncomputable def xtV (s : Shared) : Bool := xlAt qV [] s && recOk (RowW.records PySem.Challenge.rw_sa0132_01.row.toRowW) s
noncomputable def okTop (P : Params) (s : Shared) : Bool := staticsOk (importedModules pw.main.body) (boot_heap P) s.heap && namesBound pw s.heap && gensDone s && laidKept (boot_heap P) s.heap
end Mine

namespace Mine

noncomputable def v_make_piece : List Str := [Str.ofString "side", Str.ofString "kind"]
noncomputable def b_make_piece : List S := [
  .ret (.bin .Add (.bin .Mult (.var 0) (.const (.int 8))) (.var 1))]
noncomputable def v_side_of : List Str := [Str.ofString "piece"]
noncomputable def b_side_of : List S := [
  .ret (.bin .RShift (.var 0) (.const (.int 3)))]
noncomputable def v_kind_of : List Str := [Str.ofString "piece"]
noncomputable def b_kind_of : List S := [
  .ret (.bin .BitAnd (.var 0) (.const (.int 7)))]
noncomputable def v_highest : List Str := [Str.ofString "b", Str.ofString "width", Str.ofString "square"]
noncomputable def b_highest : List S := [
  .ife (.cmp .Eq (.var 0) (.const (.int 0))) [.ret (.neg (.const (.int 1)))] [],
  .assign 1 (.const (.int 1)),
  .loop (.bin .RShift (.var 0) (.var 1)) [.augN 1 .Mult (.const (.int 2))],
  .assign 2 (.const (.int 0)),
  .loop (.cmp .Gt (.var 1) (.const (.int 1))) [.augN 1 .FloorDiv (.const (.int 2)), .ife (.bin .RShift (.var 0) (.var 1)) [.augN 0 .RShift (.var 1), .augN 2 .Add (.var 1)] []],
  .ret (.var 2)]
noncomputable def v_lowest : List Str := [Str.ofString "b"]
noncomputable def b_lowest : List S := [
  .ret (.call 3 [(.bin .BitAnd (.var 0) (.neg (.var 0)))])]
noncomputable def v_squares_of : List Str := [Str.ofString "b", Str.ofString "out", Str.ofString "square"]
noncomputable def b_squares_of : List S := [
  .assign 1 (.list []),
  .assign 2 (.const (.int 0)),
  .loop (.var 0) [.loop (.not (.bin .BitAnd (.var 0) (.const (.int 15)))) [.augN 0 .RShift (.const (.int 4)), .augN 2 .Add (.const (.int 4))], .ife (.bin .BitAnd (.var 0) (.const (.int 1))) [.expr (.app (.var 1) (.var 2))] [], .augN 0 .RShift (.const (.int 1)), .augN 2 .Add (.const (.int 1))],
  .ret (.var 1)]
noncomputable def v_Geometry : List Str := [Str.ofString "self", Str.ofString "files", Str.ofString "ranks", Str.ofString "has_double", Str.ofString "has_castling"]
noncomputable def b_Geometry : List S := [
  .attrSet (.var 0) 0 (.var 1),
  .attrSet (.var 0) 1 (.var 2),
  .attrSet (.var 0) 2 (.bin .Mult (.var 1) (.var 2)),
  .attrSet (.var 0) 3 (.bin .Sub (.bin .LShift (.const (.int 1)) (.bin .Mult (.var 1) (.var 2))) (.const (.int 1))),
  .attrSet (.var 0) 4 (.and (.var 3) (.cmp .GtE (.var 2) (.const (.int 5)))),
  .attrSet (.var 0) 5 (.var 4),
  .attrSet (.var 0) 6 (.list []),
  .attrSet (.var 0) 7 (.list []),
  .attrSet (.var 0) 8 (.list []),
  .attrSet (.var 0) 9 (.list []),
  .attrSet (.var 0) 10 (.list []),
  .attrSet (.var 0) 11 (.list [(.list []), (.list [])]),
  .attrSet (.var 0) 12 (.list []),
  .attrSet (.var 0) 13 (.list [])]
noncomputable def v_is_growing : List Str := [Str.ofString "d"]
noncomputable def b_is_growing : List S := [
  .ret (.or (.cmp .Gt (.tab [1, 0, -1, 0, 1, -1, -1, 1] (.var 0)) (.const (.int 0))) (.cmp .Eq (.var 0) (.const (.int 1))))]
noncomputable def v_add_masks : List Str := [Str.ofString "geo", Str.ofString "row", Str.ofString "column", Str.ofString "r", Str.ofString "f"]
noncomputable def b_add_masks : List S := [
  .assign 1 (.bin .Sub (.bin .LShift (.const (.int 1)) (.attr (.var 0) 0)) (.const (.int 1))),
  .assign 2 (.const (.int 0)),
  .forR 3 [(.attr (.var 0) 1)] [.expr (.app (.attr (.var 0) 7) (.bin .LShift (.var 1) (.bin .Mult (.var 3) (.attr (.var 0) 0)))), .augN 2 .BitOr (.bin .LShift (.const (.int 1)) (.bin .Mult (.var 3) (.attr (.var 0) 0)))],
  .forR 4 [(.attr (.var 0) 0)] [.expr (.app (.attr (.var 0) 6) (.bin .LShift (.var 2) (.var 4)))]]
noncomputable def v_inner_squares : List Str := [Str.ofString "geo", Str.ofString "d", Str.ofString "edge"]
noncomputable def b_inner_squares : List S := [
  .assign 2 (.const (.int 0)),
  .ife (.cmp .Gt (.tab [0, 1, 0, -1, 1, 1, -1, -1] (.var 1)) (.const (.int 0))) [.augN 2 .BitOr (.sub (.attr (.var 0) 6) (.bin .Sub (.attr (.var 0) 0) (.const (.int 1))))] [],
  .ife (.cmp .Lt (.tab [0, 1, 0, -1, 1, 1, -1, -1] (.var 1)) (.const (.int 0))) [.augN 2 .BitOr (.sub (.attr (.var 0) 6) (.const (.int 0)))] [],
  .ife (.cmp .Gt (.tab [1, 0, -1, 0, 1, -1, -1, 1] (.var 1)) (.const (.int 0))) [.augN 2 .BitOr (.sub (.attr (.var 0) 7) (.bin .Sub (.attr (.var 0) 1) (.const (.int 1))))] [],
  .ife (.cmp .Lt (.tab [1, 0, -1, 0, 1, -1, -1, 1] (.var 1)) (.const (.int 0))) [.augN 2 .BitOr (.sub (.attr (.var 0) 7) (.const (.int 0)))] [],
  .ret (.bin .BitAnd (.attr (.var 0) 3) (.inv (.var 2)))]
noncomputable def v_add_rays : List Str := [Str.ofString "geo", Str.ofString "d", Str.ofString "inner", Str.ofString "delta", Str.ofString "ray", Str.ofString "order", Str.ofString "square", Str.ofString "goal"]
noncomputable def b_add_rays : List S := [
  .attrSet (.var 0) 9 (.bin .Mult (.list [(.const (.int 0))]) (.attr (.var 0) 2)),
  .forR 1 [(.const (.int 8))] [.assign 2 (.call 9 [(.var 0), (.var 1)]), .assign 3 (.bin .Add (.bin .Mult (.tab [1, 0, -1, 0, 1, -1, -1, 1] (.var 1)) (.attr (.var 0) 0)) (.tab [0, 1, 0, -1, 1, 1, -1, -1] (.var 1))), .assign 4 (.bin .Mult (.list [(.const (.int 0))]) (.attr (.var 0) 2)), .assign 5 (.range [(.attr (.var 0) 2)]), .ife (.call 7 [(.var 1)]) [.assign 5 (.range [(.bin .Sub (.attr (.var 0) 2) (.const (.int 1))), (.neg (.const (.int 1))), (.neg (.const (.int 1)))])] [], .forV 6 (.var 5) [.ife (.bin .BitAnd (.bin .RShift (.var 2) (.var 6)) (.const (.int 1))) [.assign 7 (.bin .Add (.var 6) (.var 3)), .subSet (.var 4) (.var 6) (.bin .BitOr (.sub (.var 4) (.var 7)) (.bin .LShift (.const (.int 1)) (.var 7))), .augS (.attr (.var 0) 9) (.var 6) .BitOr (.bin .LShift (.const (.int 1)) (.var 7))] []], .expr (.app (.attr (.var 0) 8) (.var 4))]]
noncomputable def v_add_pawns : List Str := [Str.ofString "geo", Str.ofString "square"]
noncomputable def b_add_pawns : List S := [
  .forR 1 [(.attr (.var 0) 2)] [.expr (.app (.sub (.attr (.var 0) 11) (.const (.int 0))) (.bin .BitAnd (.sub (.attr (.var 0) 9) (.var 1)) (.bin .BitOr (.sub (.sub (.attr (.var 0) 8) (.const (.int 4))) (.var 1)) (.sub (.sub (.attr (.var 0) 8) (.const (.int 7))) (.var 1))))), .expr (.app (.sub (.attr (.var 0) 11) (.const (.int 1))) (.bin .BitAnd (.sub (.attr (.var 0) 9) (.var 1)) (.bin .BitOr (.sub (.sub (.attr (.var 0) 8) (.const (.int 5))) (.var 1)) (.sub (.sub (.attr (.var 0) 8) (.const (.int 6))) (.var 1)))))]]
noncomputable def v_add_knights : List Str := [Str.ofString "geo", Str.ofString "files", Str.ofString "not_first", Str.ofString "not_last", Str.ofString "not_first_two", Str.ofString "not_last_two", Str.ofString "square", Str.ofString "b", Str.ofString "near", Str.ofString "far", Str.ofString "found"]
noncomputable def b_add_knights : List S := [
  .assign 1 (.attr (.var 0) 0),
  .assign 2 (.bin .BitAnd (.attr (.var 0) 3) (.inv (.sub (.attr (.var 0) 6) (.const (.int 0))))),
  .assign 3 (.bin .BitAnd (.attr (.var 0) 3) (.inv (.sub (.attr (.var 0) 6) (.bin .Sub (.var 1) (.const (.int 1)))))),
  .assign 4 (.bin .BitAnd (.var 2) (.inv (.sub (.attr (.var 0) 6) (.const (.int 1))))),
  .assign 5 (.bin .BitAnd (.var 3) (.inv (.sub (.attr (.var 0) 6) (.bin .Sub (.var 1) (.const (.int 2)))))),
  .forR 6 [(.attr (.var 0) 2)] [.assign 7 (.bin .LShift (.const (.int 1)) (.var 6)), .assign 8 (.bin .BitOr (.bin .BitAnd (.bin .LShift (.var 7) (.const (.int 1))) (.var 2)) (.bin .BitAnd (.bin .RShift (.var 7) (.const (.int 1))) (.var 3))), .assign 9 (.bin .BitOr (.bin .BitAnd (.bin .LShift (.var 7) (.const (.int 2))) (.var 4)) (.bin .BitAnd (.bin .RShift (.var 7) (.const (.int 2))) (.var 5))), .assign 10 (.bin .BitOr (.bin .BitOr (.bin .BitOr (.bin .LShift (.var 8) (.bin .Mult (.const (.int 2)) (.var 1))) (.bin .RShift (.var 8) (.bin .Mult (.const (.int 2)) (.var 1)))) (.bin .LShift (.var 9) (.var 1))) (.bin .RShift (.var 9) (.var 1))), .expr (.app (.attr (.var 0) 10) (.bin .BitAnd (.var 10) (.attr (.var 0) 3)))]]
noncomputable def v_add_castles : List Str := [Str.ofString "geo", Str.ofString "start", Str.ofString "index", Str.ofString "base", Str.ofString "corner", Str.ofString "way", Str.ofString "goal"]
noncomputable def b_add_castles : List S := [
  .attrSet (.var 0) 13 (.bin .Mult (.list [(.const (.int 0))]) (.attr (.var 0) 2)),
  .assign 1 (.bin .FloorDiv (.attr (.var 0) 0) (.const (.int 2))),
  .forR 2 [(.const (.int 4))] [.assign 3 (.bin .Mult (.bin .Mult (.bin .RShift (.var 2) (.const (.int 1))) (.bin .Sub (.attr (.var 0) 1) (.const (.int 1)))) (.attr (.var 0) 0)), .assign 4 (.bin .Sub (.attr (.var 0) 0) (.const (.int 1))), .assign 5 (.const (.int 1)), .ife (.bin .BitAnd (.var 2) (.const (.int 1))) [.assign 4 (.const (.int 0)), .assign 5 (.neg (.const (.int 1)))] [], .assign 6 (.bin .Add (.var 1) (.bin .Mult (.const (.int 2)) (.var 5))), .ife (.and (.attr (.var 0) 5) (.cmp .Gt (.bin .Mult (.bin .Sub (.var 4) (.var 6)) (.var 5)) (.const (.int 0)))) [.expr (.app (.attr (.var 0) 12) (.tup [(.bin .Add (.var 3) (.var 1)), (.bin .Add (.var 3) (.var 6)), (.bin .Add (.var 3) (.var 4)), (.bin .Sub (.bin .Add (.var 3) (.var 6)) (.var 5))])), .augS (.attr (.var 0) 13) (.bin .Add (.var 3) (.var 1)) .BitOr (.bin .LShift (.const (.int 1)) (.var 2)), .augS (.attr (.var 0) 13) (.bin .Add (.var 3) (.var 4)) .BitOr (.bin .LShift (.const (.int 1)) (.var 2))] [.expr (.app (.attr (.var 0) 12) (.const .none))]]]
noncomputable def v_make_geometry : List Str := [Str.ofString "files", Str.ofString "ranks", Str.ofString "has_double", Str.ofString "has_castling", Str.ofString "geo"]
noncomputable def b_make_geometry : List S := [
  .ife (.or (.cmp .Lt (.var 0) (.const (.int 2))) (.or (.cmp .Gt (.var 0) (.const (.int 8))) (.or (.cmp .Lt (.var 1) (.const (.int 3))) (.cmp .Gt (.var 1) (.const (.int 8)))))) [.fail] [],
  .assign 4 (.call 6 [(.var 0), (.var 1), (.var 2), (.var 3)]),
  .expr (.call 8 [(.var 4)]),
  .expr (.call 10 [(.var 4)]),
  .expr (.call 11 [(.var 4)]),
  .expr (.call 12 [(.var 4)]),
  .expr (.call 13 [(.var 4)]),
  .ret (.var 4)]
noncomputable def v_ray_attacks : List Str := [Str.ofString "geo", Str.ofString "d", Str.ofString "square", Str.ofString "occupied", Str.ofString "ray", Str.ofString "stop", Str.ofString "behind"]
noncomputable def b_ray_attacks : List S := [
  .assign 4 (.sub (.sub (.attr (.var 0) 8) (.var 1)) (.var 2)),
  .assign 5 (.bin .BitAnd (.var 4) (.var 3)),
  .ife (.cmp .Eq (.var 5) (.const (.int 0))) [.ret (.var 4)] [],
  .ife (.call 7 [(.var 1)]) [.ret (.bin .BitAnd (.var 4) (.bin .BitXor (.var 5) (.bin .Sub (.var 5) (.const (.int 1)))))] [],
  .assign 6 (.bin .RShift (.var 5) (.const (.int 1))),
  .augN 6 .BitOr (.bin .RShift (.var 6) (.const (.int 1))),
  .augN 6 .BitOr (.bin .RShift (.var 6) (.const (.int 2))),
  .augN 6 .BitOr (.bin .RShift (.var 6) (.const (.int 4))),
  .augN 6 .BitOr (.bin .RShift (.var 6) (.const (.int 8))),
  .augN 6 .BitOr (.bin .RShift (.var 6) (.const (.int 16))),
  .augN 6 .BitOr (.bin .RShift (.var 6) (.const (.int 32))),
  .ret (.bin .BitAnd (.var 4) (.inv (.var 6)))]
noncomputable def v_rook_attacks : List Str := [Str.ofString "geo", Str.ofString "square", Str.ofString "occupied", Str.ofString "found", Str.ofString "d"]
noncomputable def b_rook_attacks : List S := [
  .assign 3 (.const (.int 0)),
  .forR 4 [(.const (.int 4))] [.augN 3 .BitOr (.call 15 [(.var 0), (.var 4), (.var 1), (.var 2)])],
  .ret (.var 3)]
noncomputable def v_bishop_attacks : List Str := [Str.ofString "geo", Str.ofString "square", Str.ofString "occupied", Str.ofString "found", Str.ofString "d"]
noncomputable def b_bishop_attacks : List S := [
  .assign 3 (.const (.int 0)),
  .forR 4 [(.const (.int 4)), (.const (.int 8))] [.augN 3 .BitOr (.call 15 [(.var 0), (.var 4), (.var 1), (.var 2)])],
  .ret (.var 3)]
noncomputable def v_queen_attacks : List Str := [Str.ofString "geo", Str.ofString "square", Str.ofString "occupied"]
noncomputable def b_queen_attacks : List S := [
  .ret (.bin .BitOr (.call 16 [(.var 0), (.var 1), (.var 2)]) (.call 17 [(.var 0), (.var 1), (.var 2)]))]
noncomputable def v_slider_attacks : List Str := [Str.ofString "geo", Str.ofString "kind", Str.ofString "square", Str.ofString "occupied"]
noncomputable def b_slider_attacks : List S := [
  .ife (.cmp .Eq (.var 1) (.const (.int 3))) [.ret (.call 17 [(.var 0), (.var 2), (.var 3)])] [],
  .ife (.cmp .Eq (.var 1) (.const (.int 4))) [.ret (.call 16 [(.var 0), (.var 2), (.var 3)])] [],
  .ife (.cmp .Eq (.var 1) (.const (.int 5))) [.ret (.call 18 [(.var 0), (.var 2), (.var 3)])] [],
  .ret (.const (.int 0))]
noncomputable def v_piece_attacks : List Str := [Str.ofString "geo", Str.ofString "side", Str.ofString "kind", Str.ofString "square", Str.ofString "occupied"]
noncomputable def b_piece_attacks : List S := [
  .ife (.cmp .Eq (.var 2) (.const (.int 1))) [.ret (.sub (.sub (.attr (.var 0) 11) (.var 1)) (.var 3))] [],
  .ife (.cmp .Eq (.var 2) (.const (.int 2))) [.ret (.sub (.attr (.var 0) 10) (.var 3))] [],
  .ife (.cmp .Eq (.var 2) (.const (.int 6))) [.ret (.sub (.attr (.var 0) 9) (.var 3))] [],
  .ret (.call 19 [(.var 0), (.var 2), (.var 3), (.var 4)])]
noncomputable def v_Position : List Str := [Str.ofString "self", Str.ofString "geo", Str.ofString "zob"]
noncomputable def b_Position : List S := [
  .attrSet (.var 0) 14 (.var 1),
  .attrSet (.var 0) 15 (.var 2),
  .attrSet (.var 0) 16 (.bin .Mult (.list [(.const (.int 0))]) (.attr (.var 1) 2)),
  .attrSet (.var 0) 17 (.bin .Mult (.list [(.const (.int 0))]) (.const (.int 7))),
  .attrSet (.var 0) 18 (.list [(.const (.int 0)), (.const (.int 0))]),
  .attrSet (.var 0) 19 (.const (.int 0)),
  .attrSet (.var 0) 20 (.const (.int 0)),
  .attrSet (.var 0) 21 (.neg (.const (.int 1))),
  .attrSet (.var 0) 22 (.const (.int 0)),
  .attrSet (.var 0) 3 (.const (.int 1)),
  .attrSet (.var 0) 23 (.const (.int 0)),
  .attrSet (.var 0) 24 (.list [])]
noncomputable def v_put_piece : List Str := [Str.ofString "pos", Str.ofString "piece", Str.ofString "s", Str.ofString "bit"]
noncomputable def b_put_piece : List S := [
  .assign 3 (.bin .LShift (.const (.int 1)) (.var 2)),
  .subSet (.attr (.var 0) 16) (.var 2) (.var 1),
  .augS (.attr (.var 0) 17) (.call 2 [(.var 1)]) .BitOr (.var 3),
  .augS (.attr (.var 0) 18) (.call 1 [(.var 1)]) .BitOr (.var 3),
  .augA (.var 0) 23 .BitXor (.sub (.sub (.attr (.attr (.var 0) 15) 25) (.var 1)) (.var 2))]
noncomputable def v_take_piece : List Str := [Str.ofString "pos", Str.ofString "s", Str.ofString "piece", Str.ofString "bit"]
noncomputable def b_take_piece : List S := [
  .assign 2 (.sub (.attr (.var 0) 16) (.var 1)),
  .assign 3 (.bin .LShift (.const (.int 1)) (.var 1)),
  .subSet (.attr (.var 0) 16) (.var 1) (.const (.int 0)),
  .augS (.attr (.var 0) 17) (.call 2 [(.var 2)]) .BitXor (.var 3),
  .augS (.attr (.var 0) 18) (.call 1 [(.var 2)]) .BitXor (.var 3),
  .augA (.var 0) 23 .BitXor (.sub (.sub (.attr (.attr (.var 0) 15) 25) (.var 2)) (.var 1)),
  .ret (.var 2)]
noncomputable def v_shift_piece : List Str := [Str.ofString "pos", Str.ofString "a", Str.ofString "b", Str.ofString "piece", Str.ofString "bits", Str.ofString "numbers"]
noncomputable def b_shift_piece : List S := [
  .assign 3 (.sub (.attr (.var 0) 16) (.var 1)),
  .assign 4 (.bin .BitOr (.bin .LShift (.const (.int 1)) (.var 1)) (.bin .LShift (.const (.int 1)) (.var 2))),
  .subSet (.attr (.var 0) 16) (.var 1) (.const (.int 0)),
  .subSet (.attr (.var 0) 16) (.var 2) (.var 3),
  .augS (.attr (.var 0) 17) (.call 2 [(.var 3)]) .BitXor (.var 4),
  .augS (.attr (.var 0) 18) (.call 1 [(.var 3)]) .BitXor (.var 4),
  .assign 5 (.sub (.attr (.attr (.var 0) 15) 25) (.var 3)),
  .augA (.var 0) 23 .BitXor (.bin .BitXor (.sub (.var 5) (.var 1)) (.sub (.var 5) (.var 2)))]
noncomputable def v_occupied : List Str := [Str.ofString "pos"]
noncomputable def b_occupied : List S := [
  .ret (.bin .BitOr (.sub (.attr (.var 0) 18) (.const (.int 0))) (.sub (.attr (.var 0) 18) (.const (.int 1))))]
noncomputable def v_king_square : List Str := [Str.ofString "pos", Str.ofString "side"]
noncomputable def b_king_square : List S := [
  .ret (.call 4 [(.bin .BitAnd (.sub (.attr (.var 0) 18) (.var 1)) (.sub (.attr (.var 0) 17) (.const (.int 6))))])]
noncomputable def v_copy_position : List Str := [Str.ofString "pos", Str.ofString "new"]
noncomputable def b_copy_position : List S := [
  .assign 1 (.call 21 [(.attr (.var 0) 14), (.attr (.var 0) 15)]),
  .attrSet (.var 1) 16 (.copy [(.attr (.var 0) 16)]),
  .attrSet (.var 1) 17 (.copy [(.attr (.var 0) 17)]),
  .attrSet (.var 1) 18 (.copy [(.attr (.var 0) 18)]),
  .attrSet (.var 1) 19 (.attr (.var 0) 19),
  .attrSet (.var 1) 20 (.attr (.var 0) 20),
  .attrSet (.var 1) 21 (.attr (.var 0) 21),
  .attrSet (.var 1) 22 (.attr (.var 0) 22),
  .attrSet (.var 1) 3 (.attr (.var 0) 3),
  .attrSet (.var 1) 23 (.attr (.var 0) 23),
  .attrSet (.var 1) 24 (.copy [(.attr (.var 0) 24)]),
  .ret (.var 1)]
noncomputable def v_straight_sliders : List Str := [Str.ofString "pos"]
noncomputable def b_straight_sliders : List S := [
  .ret (.bin .BitOr (.sub (.attr (.var 0) 17) (.const (.int 4))) (.sub (.attr (.var 0) 17) (.const (.int 5))))]
noncomputable def v_slanting_sliders : List Str := [Str.ofString "pos"]
noncomputable def b_slanting_sliders : List S := [
  .ret (.bin .BitOr (.sub (.attr (.var 0) 17) (.const (.int 3))) (.sub (.attr (.var 0) 17) (.const (.int 5))))]
noncomputable def v_pawn_attackers : List Str := [Str.ofString "pos", Str.ofString "square", Str.ofString "side"]
noncomputable def b_pawn_attackers : List S := [
  .ret (.bin .BitAnd (.bin .BitAnd (.sub (.sub (.attr (.attr (.var 0) 14) 11) (.bin .Sub (.const (.int 1)) (.var 2))) (.var 1)) (.sub (.attr (.var 0) 17) (.const (.int 1)))) (.sub (.attr (.var 0) 18) (.var 2)))]
noncomputable def v_step_attackers : List Str := [Str.ofString "pos", Str.ofString "square", Str.ofString "side", Str.ofString "geo", Str.ofString "near"]
noncomputable def b_step_attackers : List S := [
  .assign 3 (.attr (.var 0) 14),
  .assign 4 (.bin .BitAnd (.sub (.attr (.var 3) 10) (.var 1)) (.sub (.attr (.var 0) 17) (.const (.int 2)))),
  .augN 4 .BitOr (.bin .BitAnd (.sub (.attr (.var 3) 9) (.var 1)) (.sub (.attr (.var 0) 17) (.const (.int 6)))),
  .ret (.bin .BitOr (.call 30 [(.var 0), (.var 1), (.var 2)]) (.bin .BitAnd (.var 4) (.sub (.attr (.var 0) 18) (.var 2))))]
noncomputable def v_line_attackers : List Str := [Str.ofString "pos", Str.ofString "square", Str.ofString "occupied", Str.ofString "hits", Str.ofString "straight", Str.ofString "slanting"]
noncomputable def b_line_attackers : List S := [
  .assign 3 (.const (.int 0)),
  .assign 4 (.call 28 [(.var 0)]),
  .ife (.var 4) [.augN 3 .BitOr (.bin .BitAnd (.call 16 [(.attr (.var 0) 14), (.var 1), (.var 2)]) (.var 4))] [],
  .assign 5 (.call 29 [(.var 0)]),
  .ife (.var 5) [.augN 3 .BitOr (.bin .BitAnd (.call 17 [(.attr (.var 0) 14), (.var 1), (.var 2)]) (.var 5))] [],
  .ret (.var 3)]
noncomputable def v_attackers_to : List Str := [Str.ofString "pos", Str.ofString "square", Str.ofString "occupied", Str.ofString "steps"]
noncomputable def b_attackers_to : List S := [
  .assign 3 (.bin .BitOr (.call 31 [(.var 0), (.var 1), (.const (.int 0))]) (.call 31 [(.var 0), (.var 1), (.const (.int 1))])),
  .ret (.bin .BitOr (.var 3) (.call 32 [(.var 0), (.var 1), (.var 2)]))]
noncomputable def v_is_attacked : List Str := [Str.ofString "pos", Str.ofString "square", Str.ofString "side", Str.ofString "occupied", Str.ofString "geo", Str.ofString "own", Str.ofString "straight", Str.ofString "slanting"]
noncomputable def b_is_attacked : List S := [
  .ife (.call 31 [(.var 0), (.var 1), (.var 2)]) [.ret (.const (.bool true))] [],
  .assign 4 (.attr (.var 0) 14),
  .assign 5 (.sub (.attr (.var 0) 18) (.var 2)),
  .assign 6 (.bin .BitAnd (.call 28 [(.var 0)]) (.var 5)),
  .ife (.and (.var 6) (.bin .BitAnd (.call 16 [(.var 4), (.var 1), (.var 3)]) (.var 6))) [.ret (.const (.bool true))] [],
  .assign 7 (.bin .BitAnd (.call 29 [(.var 0)]) (.var 5)),
  .ret (.and (.cmp .NotEq (.var 7) (.const (.int 0))) (.cmp .NotEq (.bin .BitAnd (.call 17 [(.var 4), (.var 1), (.var 3)]) (.var 7)) (.const (.int 0))))]
noncomputable def v_checkers_of : List Str := [Str.ofString "pos", Str.ofString "side", Str.ofString "everything"]
noncomputable def b_checkers_of : List S := [
  .assign 2 (.bin .BitOr (.sub (.attr (.var 0) 18) (.const (.int 0))) (.sub (.attr (.var 0) 18) (.const (.int 1)))),
  .ret (.bin .BitAnd (.call 33 [(.var 0), (.call 26 [(.var 0), (.var 1)]), (.var 2)]) (.sub (.attr (.var 0) 18) (.bin .Sub (.const (.int 1)) (.var 1))))]
noncomputable def v_checkers : List Str := [Str.ofString "pos"]
noncomputable def b_checkers : List S := [
  .ret (.call 35 [(.var 0), (.attr (.var 0) 19)])]
noncomputable def v_in_check_of : List Str := [Str.ofString "pos", Str.ofString "side", Str.ofString "everything"]
noncomputable def b_in_check_of : List S := [
  .assign 2 (.bin .BitOr (.sub (.attr (.var 0) 18) (.const (.int 0))) (.sub (.attr (.var 0) 18) (.const (.int 1)))),
  .ret (.call 34 [(.var 0), (.call 26 [(.var 0), (.var 1)]), (.bin .Sub (.const (.int 1)) (.var 1)), (.var 2)])]
noncomputable def v_in_check : List Str := [Str.ofString "pos"]
noncomputable def b_in_check : List S := [
  .ret (.call 37 [(.var 0), (.attr (.var 0) 19)])]
noncomputable def v_covered_by : List Str := [Str.ofString "pos", Str.ofString "side", Str.ofString "occupied", Str.ofString "covered", Str.ofString "kind", Str.ofString "square"]
noncomputable def b_covered_by : List S := [
  .assign 3 (.const (.int 0)),
  .forV 4 (.tup [(.const (.int 1)), (.const (.int 2)), (.const (.int 3)), (.const (.int 4)), (.const (.int 5)), (.const (.int 6))]) [.forV 5 (.call 5 [(.bin .BitAnd (.sub (.attr (.var 0) 17) (.var 4)) (.sub (.attr (.var 0) 18) (.var 1)))]) [.augN 3 .BitOr (.call 20 [(.attr (.var 0) 14), (.var 1), (.var 4), (.var 5), (.var 2)])]],
  .ret (.var 3)]
noncomputable def v_attacked_by : List Str := [Str.ofString "pos", Str.ofString "side"]
noncomputable def b_attacked_by : List S := [
  .ret (.call 39 [(.var 0), (.var 1), (.bin .BitOr (.sub (.attr (.var 0) 18) (.const (.int 0))) (.sub (.attr (.var 0) 18) (.const (.int 1))))])]
noncomputable def v_forbidden_to_king : List Str := [Str.ofString "pos", Str.ofString "side", Str.ofString "everything"]
noncomputable def b_forbidden_to_king : List S := [
  .assign 2 (.bin .BitOr (.sub (.attr (.var 0) 18) (.const (.int 0))) (.sub (.attr (.var 0) 18) (.const (.int 1)))),
  .ret (.call 39 [(.var 0), (.bin .Sub (.const (.int 1)) (.var 1)), (.bin .BitXor (.var 2) (.bin .LShift (.const (.int 1)) (.call 26 [(.var 0), (.var 1)])))])]
noncomputable def v_king_flights : List Str := [Str.ofString "pos", Str.ofString "own", Str.ofString "steps"]
noncomputable def b_king_flights : List S := [
  .assign 1 (.sub (.attr (.var 0) 18) (.attr (.var 0) 19)),
  .assign 2 (.bin .BitAnd (.sub (.attr (.attr (.var 0) 14) 9) (.call 26 [(.var 0), (.attr (.var 0) 19)])) (.inv (.var 1))),
  .ret (.bin .BitAnd (.var 2) (.inv (.call 41 [(.var 0), (.attr (.var 0) 19)])))]
noncomputable def v_Zobrist : List Str := [Str.ofString "self", Str.ofString "pieces", Str.ofString "ep", Str.ofString "rights", Str.ofString "side"]
noncomputable def b_Zobrist : List S := [
  .attrSet (.var 0) 25 (.var 1),
  .attrSet (.var 0) 21 (.var 2),
  .attrSet (.var 0) 20 (.var 3),
  .attrSet (.var 0) 19 (.var 4)]
noncomputable def v_law_tally : List Str := [Str.ofString "slate", Str.ofString "many"]
noncomputable def b_law_tally : List S := [
  .augS (.var 0) (.const (.int 1)) .Add (.const (.int 1)),
  .ret (.bin .Mod (.ite (.cmp .LtE (.sub (.var 0) (.const (.int 1))) (.len [(.sub (.var 0) (.const (.int 0)))])) (.sub (.sub (.var 0) (.const (.int 0))) (.bin .Sub (.sub (.var 0) (.const (.int 1))) (.const (.int 1)))) (.bin .Add (.bin .Add (.bin .Mult (.const (.int 9)) (.sub (.var 0) (.const (.int 1)))) (.bin .FloorDiv (.sub (.var 0) (.const (.int 1))) (.const (.int 4)))) (.const (.int 3)))) (.var 1))]
noncomputable def v_law_board : List Str := [Str.ofString "slate", Str.ofString "files", Str.ofString "ranks", Str.ofString "size", Str.ofString "pos", Str.ofString "king", Str.ofString "turn", Str.ofString "square", Str.ofString "kind", Str.ofString "side"]
noncomputable def b_law_board : List S := [
  .assign2 1 2 (.bin .Add (.const (.int 3)) (.call 44 [(.var 0), (.const (.int 2))])) (.bin .Add (.const (.int 3)) (.call 44 [(.var 0), (.const (.int 2))])),
  .assign 3 (.bin .Mult (.var 1) (.var 2)),
  .assign 4 (.call 21 [(.call 14 [(.var 1), (.var 2), (.const (.bool false)), (.const (.bool false))]), (.call 43 [(.bin .Mult (.list [(.bin .Mult (.list [(.const (.int 0))]) (.var 3))]) (.const (.int 15))), (.bin .Mult (.list [(.const (.int 0))]) (.var 1)), (.bin .Mult (.list [(.const (.int 0))]) (.const (.int 16))), (.const (.int 0))])]),
  .assign 5 (.call 44 [(.var 0), (.var 3)]),
  .expr (.call 22 [(.var 4), (.call 0 [(.const (.int 0)), (.const (.int 6))]), (.var 5)]),
  .expr (.call 22 [(.var 4), (.call 0 [(.const (.int 1)), (.const (.int 6))]), (.bin .Mod (.bin .Add (.bin .Add (.var 5) (.const (.int 1))) (.call 44 [(.var 0), (.bin .Sub (.var 3) (.const (.int 1)))])) (.var 3))]),
  .attrSet (.var 4) 19 (.call 44 [(.var 0), (.const (.int 2))]),
  .forR 6 [(.call 44 [(.var 0), (.const (.int 7))])] [.assign3 7 8 9 (.call 44 [(.var 0), (.var 3)]) (.bin .Add (.const (.int 1)) (.call 44 [(.var 0), (.const (.int 5))])) (.call 44 [(.var 0), (.const (.int 2))]), .ife (.and (.cmp .Eq (.var 8) (.const (.int 1))) (.not (.chain .LtE .Lt (.var 1) (.var 7) (.bin .Sub (.var 3) (.var 1))))) [.assign 8 (.const (.int 2))] [], .ife (.cmp .Eq (.bin .BitAnd (.bin .RShift (.call 25 [(.var 4)]) (.var 7)) (.const (.int 1))) (.const (.int 0))) [.expr (.call 22 [(.var 4), (.call 0 [(.var 9), (.var 8)]), (.var 7)])] []],
  .ret (.var 4)]
noncomputable def v_law_is_safe : List Str := [Str.ofString "pos", Str.ofString "king", Str.ofString "square", Str.ofString "gone"]
noncomputable def b_law_is_safe : List S := [
  .assign 3 (.call 27 [(.var 0)]),
  .ife (.cmp .NotEq (.sub (.attr (.var 3) 16) (.var 2)) (.const (.int 0))) [.expr (.call 23 [(.var 3), (.var 2)])] [],
  .expr (.call 24 [(.var 3), (.var 1), (.var 2)]),
  .ret (.not (.call 38 [(.var 3)]))]
noncomputable def v_law : List Str := [Str.ofString "script", Str.ofString "slate", Str.ofString "pos", Str.ofString "foe", Str.ofString "everything", Str.ofString "hit", Str.ofString "square", Str.ofString "king", Str.ofString "is_checked", Str.ofString "flights", Str.ofString "steps", Str.ofString "is_step"]
noncomputable def b_law : List S := [
  .assign 2 (.call 45 [(.var 1)]),
  .assign2 3 4 (.bin .Sub (.const (.int 1)) (.attr (.var 2) 19)) (.call 25 [(.var 2)]),
  .assign 5 (.call 40 [(.var 2), (.var 3)]),
  .forR 6 [(.attr (.attr (.var 2) 14) 2)] [.ife (.cmp .NotEq (.call 34 [(.var 2), (.var 6), (.var 3), (.var 4)]) (.cmp .Eq (.bin .BitAnd (.bin .RShift (.var 5) (.var 6)) (.const (.int 1))) (.const (.int 1)))) [.ret (.const (.bool false))] []],
  .assign 6 (.call 44 [(.var 1), (.attr (.attr (.var 2) 14) 2)]),
  .ife (.cmp .NotEq (.cmp .NotEq (.bin .BitAnd (.call 33 [(.var 2), (.var 6), (.var 4)]) (.sub (.attr (.var 2) 18) (.var 3))) (.const (.int 0))) (.cmp .Eq (.bin .BitAnd (.bin .RShift (.var 5) (.var 6)) (.const (.int 1))) (.const (.int 1)))) [.ret (.const (.bool false))] [],
  .assign 7 (.call 26 [(.var 2), (.attr (.var 2) 19)]),
  .assign 8 (.call 38 [(.var 2)]),
  .ife (.or (.cmp .NotEq (.var 8) (.cmp .Eq (.bin .BitAnd (.bin .RShift (.var 5) (.var 7)) (.const (.int 1))) (.const (.int 1)))) (.cmp .NotEq (.var 8) (.cmp .NotEq (.call 36 [(.var 2)]) (.const (.int 0))))) [.ret (.const (.bool false))] [],
  .assign 9 (.call 42 [(.var 2)]),
  .assign 10 (.bin .BitAnd (.call 20 [(.attr (.var 2) 14), (.attr (.var 2) 19), (.const (.int 6)), (.var 7), (.var 4)]) (.inv (.sub (.attr (.var 2) 18) (.attr (.var 2) 19)))),
  .forR 6 [(.attr (.attr (.var 2) 14) 2)] [.assign 11 (.cmp .Eq (.bin .BitAnd (.bin .RShift (.var 10) (.var 6)) (.const (.int 1))) (.const (.int 1))), .ife (.cmp .NotEq (.and (.var 11) (.call 46 [(.var 2), (.var 7), (.var 6)])) (.cmp .Eq (.bin .BitAnd (.bin .RShift (.var 9) (.var 6)) (.const (.int 1))) (.const (.int 1)))) [.ret (.const (.bool false))] []],
  .ret (.or (.var 8) (.cmp .Eq (.var 9) (.bin .BitAnd (.var 10) (.inv (.var 5)))))]
noncomputable def theFtab : List Value := [.ref 21, .ref 28, .ref 35, .ref 42, .ref 49, .ref 56, .ref 95, .ref 106, .ref 113, .ref 120, .ref 127, .ref 134, .ref 141, .ref 148, .ref 155, .ref 162, .ref 169, .ref 176, .ref 183, .ref 190, .ref 197, .ref 214, .ref 225, .ref 232, .ref 239, .ref 246, .ref 253, .ref 260, .ref 267, .ref 274, .ref 281, .ref 288, .ref 295, .ref 302, .ref 309, .ref 316, .ref 323, .ref 330, .ref 337, .ref 344, .ref 351, .ref 358, .ref 365, .ref 382, .ref 393, .ref 400, .ref 407]
noncomputable def theAttrs : List Str := [Str.ofString "files", Str.ofString "ranks", Str.ofString "size", Str.ofString "full", Str.ofString "has_double", Str.ofString "has_castling", Str.ofString "file_masks", Str.ofString "rank_masks", Str.ofString "rays", Str.ofString "king", Str.ofString "knight", Str.ofString "pawn", Str.ofString "castles", Str.ofString "rights_lost", Str.ofString "geo", Str.ofString "zob", Str.ofString "board", Str.ofString "kinds", Str.ofString "sides", Str.ofString "side", Str.ofString "rights", Str.ofString "ep", Str.ofString "half", Str.ofString "key", Str.ofString "history", Str.ofString "pieces"]
noncomputable def theClss : List Addr := [95, 214, 382]
noncomputable def globL : List (Str × G) := [(Str.ofString "WHITE", .int 0), (Str.ofString "BLACK", .int 1), (Str.ofString "PAWN", .int 1), (Str.ofString "KNIGHT", .int 2), (Str.ofString "BISHOP", .int 3), (Str.ofString "ROOK", .int 4), (Str.ofString "QUEEN", .int 5), (Str.ofString "KING", .int 6), (Str.ofString "EMPTY", .int 0), (Str.ofString "STEP_FILES", .tab [0, 1, 0, -1, 1, 1, -1, -1]), (Str.ofString "STEP_RANKS", .tab [1, 0, -1, 0, 1, -1, -1, 1]), (Str.ofString "make_piece", .fn 0), (Str.ofString "side_of", .fn 1), (Str.ofString "kind_of", .fn 2), (Str.ofString "highest", .fn 3), (Str.ofString "lowest", .fn 4), (Str.ofString "squares_of", .fn 5), (Str.ofString "Geometry", .fn 6), (Str.ofString "is_growing", .fn 7), (Str.ofString "add_masks", .fn 8), (Str.ofString "inner_squares", .fn 9), (Str.ofString "add_rays", .fn 10), (Str.ofString "add_pawns", .fn 11), (Str.ofString "add_knights", .fn 12), (Str.ofString "add_castles", .fn 13), (Str.ofString "make_geometry", .fn 14), (Str.ofString "ray_attacks", .fn 15), (Str.ofString "rook_attacks", .fn 16), (Str.ofString "bishop_attacks", .fn 17), (Str.ofString "queen_attacks", .fn 18), (Str.ofString "slider_attacks", .fn 19), (Str.ofString "piece_attacks", .fn 20), (Str.ofString "Position", .fn 21), (Str.ofString "put_piece", .fn 22), (Str.ofString "take_piece", .fn 23), (Str.ofString "shift_piece", .fn 24), (Str.ofString "occupied", .fn 25), (Str.ofString "king_square", .fn 26), (Str.ofString "copy_position", .fn 27), (Str.ofString "straight_sliders", .fn 28), (Str.ofString "slanting_sliders", .fn 29), (Str.ofString "pawn_attackers", .fn 30), (Str.ofString "step_attackers", .fn 31), (Str.ofString "line_attackers", .fn 32), (Str.ofString "attackers_to", .fn 33), (Str.ofString "is_attacked", .fn 34), (Str.ofString "checkers_of", .fn 35), (Str.ofString "checkers", .fn 36), (Str.ofString "in_check_of", .fn 37), (Str.ofString "in_check", .fn 38), (Str.ofString "covered_by", .fn 39), (Str.ofString "attacked_by", .fn 40), (Str.ofString "forbidden_to_king", .fn 41), (Str.ofString "king_flights", .fn 42), (Str.ofString "Zobrist", .fn 43), (Str.ofString "_law_tally", .fn 44), (Str.ofString "_law_board", .fn 45), (Str.ofString "_law_is_safe", .fn 46)]
noncomputable def theGlobs (x : Str) : Option G :=
  if x == Str.ofString "range" then some .rng else if x == Str.ofString "len" then some .len else if x == Str.ofString "list" then some .lst else globL.lookup x
noncomputable def isI (i : Int) : Value → Bool
  | .int j _ => i == j
  | _ => false
theorem isI_is {i : Int} : ∀ {v : Value}, isI i v = true → ∃ t, v = .int i t
  | .int j t, h => ⟨t, by rw [eq_of_beq h]⟩
noncomputable def intsB : List Int → List Value → Bool
  | [], l => l.isEmpty
  | i :: r, l => match l with
    | [] => false
    | v :: l => isI i v && intsB r l
theorem intsB_all : ∀ {ns : List Int} {l : List Value}, intsB ns l = true → All2 (fun (i : Int) (v : Value) => ∃ t, v = .int i t) ns l
  | [], l, h => by cases List.isEmpty_iff.mp h; exact .nil
  | i :: r, l, h => by
    cases l with
    | nil => cases h
    | cons v l =>
      have h := Bool.and_eq_true_iff.mp h
      exact .cons (isI_is h.1) (intsB_all h.2)
noncomputable def gchk (K : Frag) (x : Str) : G → Bool
  | .int i => (match nsIn K mainGlobals x with | some (some (.int j _)) => i == j | _ => false)
  | .fn f => (match nsIn K mainGlobals x with | some (some (.ref a)) => (match theFtab[f]? with | some (.ref b) => a == b | _ => false) | _ => false)
  | .tab ns => (match nsIn K mainGlobals x with | some (some (.ref a)) => (match K.lookup a with | some ⟨.type n, _, .seq xs _, _⟩ => n == "tuple" && intsB ns xs.toList | _ => false) | _ => false)
  | _ => false
theorem gchk_int {K : Frag} {x : Str} {i : Int} (h : gchk K x (.int i) = true) : ∃ t, nsIn K mainGlobals x = some (some (.int i t)) := by
  rw [gchk] at h
  split at h
  · rename_i j t e; rw [eq_of_beq h]; exact ⟨t, e⟩
  · cases h
theorem gchk_fn {K : Frag} {x : Str} {f : Nat} (h : gchk K x (.fn f) = true) : ∃ v, theFtab[f]? = some v ∧ nsIn K mainGlobals x = some (some v) := by
  rw [gchk] at h
  split at h
  · rename_i a e
    split at h
    · rename_i b e2; rw [eq_of_beq h] at e; exact ⟨_, e2, e⟩
    · cases h
  · cases h
theorem gchk_tab {K : Frag} {x : Str} {ns : List Int} (h : gchk K x (.tab ns) = true) : ∃ a l n dd sl, nsIn K mainGlobals x = some (some (.ref a)) ∧ K.lookup a = some ⟨.type "tuple", dd, .seq (List.toArray l) n, sl⟩ ∧ All2 (fun (i : Int) (v : Value) => ∃ t, v = .int i t) ns l := by
  rw [gchk] at h
  split at h
  · rename_i a e
    split at h
    · rename_i n dd xs k sl e2
      rw [Bool.and_eq_true] at h
      rw [eq_of_beq h.1] at e2
      exact ⟨a, xs.toList, k, dd, sl, e, e2, intsB_all h.2⟩
    · cases h
  · cases h
theorem lookup_mem {x : Str} {g : G} : ∀ {l : List (Str × G)}, l.lookup x = some g → (x, g) ∈ l
  | p :: r, h => by
    rw [List.lookup_cons] at h
    cases q : (x == p.1) with
    | true => rw [q] at h; cases h; rw [eq_of_beq q]; exact .head _
    | false => rw [q] at h; exact .tail _ (lookup_mem h)
/-- the record of a def at an address of the heap -/
noncomputable def fdAt (K : Frag) (a : Addr) : Option FuncData := match K.lookup a with
  | some ⟨_, _, .func fd, _⟩ => some fd
  | _ => none
noncomputable def fdK (K : Frag) (a : Addr) : FuncData := (fdAt K a).getD default
noncomputable def stmtsOf (fd : FuncData) : List Stmt := match fd.body with
  | .stmts b => b
  | _ => []
noncomputable def isNone : Value → Bool
  | .none => true
  | _ => false
noncomputable def fdChk (K : Frag) (a : Addr) : Bool := match K.lookup a with
  | some ⟨_, _, .func fd, _⟩ => (match fd.body with | .stmts _ => true | _ => false) && fd.globals == mainGlobals && fd.closure.isEmpty && fd.builtins == builtinsNs && codeIn K fd.code fd.qualname &&
      !fd.scope.isCoroutine && !fd.scope.isGenerator && fd.scope.kind == .function && (fd.scope.names.all fun x => x.2 != .cell)
  | _ => false
noncomputable def parChk (fd : FuncData) (ns : List Str) : Bool := fd.params.posonlyargs.isEmpty && fd.params.vararg.isNone && fd.params.kwonlyargs.isEmpty && fd.params.kw_defaults.isEmpty && fd.params.kwarg.isNone && fd.params.defaults.isEmpty &&
  (fd.params.args.map (·.arg) == ns) && isNone fd.defaults && isNone fd.kwdefaults
structure Df where
  a : Addr
  np : Nat
  vs : List Str
  b : List S
noncomputable def dfChk (K : Frag) (d : Df) : Bool := fdChk K d.a && ((d.vs.take d.np).all fun x => (fdK K d.a).scope.names.lookup x == some .local) && parChk (fdK K d.a) (d.vs.take d.np)
noncomputable def dfComp (K : Frag) (d : Df) : Option (List S) := compSs ⟨d.vs, (fdK K d.a).scope, theGlobs, theAttrs⟩ (stmtsOf (fdK K d.a))
noncomputable def clsChk (K : Frag) (C : Addr) : Bool := hasDictIn K C && (findIn K (.ref C) (Str.ofString "__setattr__") == some (some (.builtin "object.__setattr__"))) && plainOver K C &&
    theAttrs.all fun x => plainGet K C x && (match findIn K (.ref C) x with | some a => noGet K a | none => false) && (takerIn K C x == some none)
noncomputable def mkChk (K : Frag) (p : Addr × Addr) : Bool := makesIn K p.1 && (findIn K (.ref p.1) (Str.ofString "__init__") == some (some (.ref p.2))) && isFn K (.ref p.2)

noncomputable def defsL : List Df := [⟨21, 2, v_make_piece, b_make_piece⟩,
  ⟨28, 1, v_side_of, b_side_of⟩,
  ⟨35, 1, v_kind_of, b_kind_of⟩,
  ⟨42, 1, v_highest, b_highest⟩,
  ⟨49, 1, v_lowest, b_lowest⟩,
  ⟨56, 1, v_squares_of, b_squares_of⟩,
  ⟨92, 5, v_Geometry, b_Geometry⟩,
  ⟨106, 1, v_is_growing, b_is_growing⟩,
  ⟨113, 1, v_add_masks, b_add_masks⟩,
  ⟨120, 2, v_inner_squares, b_inner_squares⟩,
  ⟨127, 1, v_add_rays, b_add_rays⟩,
  ⟨134, 1, v_add_pawns, b_add_pawns⟩,
  ⟨141, 1, v_add_knights, b_add_knights⟩,
  ⟨148, 1, v_add_castles, b_add_castles⟩,
  ⟨155, 4, v_make_geometry, b_make_geometry⟩,
  ⟨162, 4, v_ray_attacks, b_ray_attacks⟩,
  ⟨169, 3, v_rook_attacks, b_rook_attacks⟩,
  ⟨176, 3, v_bishop_attacks, b_bishop_attacks⟩,
  ⟨183, 3, v_queen_attacks, b_queen_attacks⟩,
  ⟨190, 4, v_slider_attacks, b_slider_attacks⟩,
  ⟨197, 5, v_piece_attacks, b_piece_attacks⟩,
  ⟨211, 3, v_Position, b_Position⟩,
  ⟨225, 3, v_put_piece, b_put_piece⟩,
  ⟨232, 2, v_take_piece, b_take_piece⟩,
  ⟨239, 3, v_shift_piece, b_shift_piece⟩,
  ⟨246, 1, v_occupied, b_occupied⟩,
  ⟨253, 2, v_king_square, b_king_square⟩,
  ⟨260, 1, v_copy_position, b_copy_position⟩,
  ⟨267, 1, v_straight_sliders, b_straight_sliders⟩,
  ⟨274, 1, v_slanting_sliders, b_slanting_sliders⟩,
  ⟨281, 3, v_pawn_attackers, b_pawn_attackers⟩,
  ⟨288, 3, v_step_attackers, b_step_attackers⟩,
  ⟨295, 3, v_line_attackers, b_line_attackers⟩,
  ⟨302, 3, v_attackers_to, b_attackers_to⟩,
  ⟨309, 4, v_is_attacked, b_is_attacked⟩,
  ⟨316, 2, v_checkers_of, b_checkers_of⟩,
  ⟨323, 1, v_checkers, b_checkers⟩,
  ⟨330, 2, v_in_check_of, b_in_check_of⟩,
  ⟨337, 1, v_in_check, b_in_check⟩,
  ⟨344, 3, v_covered_by, b_covered_by⟩,
  ⟨351, 2, v_attacked_by, b_attacked_by⟩,
  ⟨358, 2, v_forbidden_to_king, b_forbidden_to_king⟩,
  ⟨365, 1, v_king_flights, b_king_flights⟩,
  ⟨379, 5, v_Zobrist, b_Zobrist⟩,
  ⟨393, 2, v_law_tally, b_law_tally⟩,
  ⟨400, 1, v_law_board, b_law_board⟩,
  ⟨407, 3, v_law_is_safe, b_law_is_safe⟩]
noncomputable def mkL : List (Addr × Addr) := [(95, 92), (214, 211), (382, 379)]
/-- what must be seen of the written heap -/
noncomputable def chk1 (K : Frag) : Bool := (globL.all fun p => gchk K p.1 p.2) && (nsIn K mainGlobals (Str.ofString "range") == some none) && (nsIn K mainGlobals (Str.ofString "len") == some none) && (nsIn K mainGlobals (Str.ofString "list") == some none)
noncomputable def chk2 (K : Frag) : Bool := theClss.all (clsChk K) && (theFtab.all fun v => keepIn K v) && mkL.all (mkChk K) && defsL.all (dfChk K)
noncomputable def chk3 (K : Frag) : List (Option (List S)) := defsL.map (dfComp K)
structure Chk (K : Frag) : Prop where
  c1 : chk1 K = true
  c2 : chk2 K = true
  c3 : chk3 K = defsL.map fun d => some d.b
theorem boot_range : bootBuiltins (Str.ofString "range") = some (.type "range") := by boot_fast
theorem boot_len : bootBuiltins (Str.ofString "len") = some (.builtin "len") := by boot_fast
theorem boot_list : bootBuiltins (Str.ofString "list") = some (.type "list") := by boot_fast
theorem attrs_nd : theAttrs.Nodup := by decide +kernel
section
variable {K : Frag} (C : Chk K)
include C
theorem gchk_all : (globL.all fun p => gchk K p.1 p.2) = true := by have h := C.c1; unfold chk1 at h; simp only [Bool.and_eq_true] at h; exact h.1.1.1
theorem nsIn_range : nsIn K mainGlobals (Str.ofString "range") = some none := by have h := C.c1; unfold chk1 at h; simp only [Bool.and_eq_true] at h; exact eq_of_beq h.1.1.2
theorem nsIn_len : nsIn K mainGlobals (Str.ofString "len") = some none := by have h := C.c1; unfold chk1 at h; simp only [Bool.and_eq_true] at h; exact eq_of_beq h.1.2
theorem nsIn_list : nsIn K mainGlobals (Str.ofString "list") = some none := by have h := C.c1; unfold chk1 at h; simp only [Bool.and_eq_true] at h; exact eq_of_beq h.2
theorem c2_all : theClss.all (clsChk K) = true ∧ (theFtab.all fun v => keepIn K v) = true ∧ mkL.all (mkChk K) = true ∧ defsL.all (dfChk K) = true := by
  have h := C.c2; unfold chk2 at h; simp only [Bool.and_eq_true] at h; exact ⟨h.1.1.1, h.1.1.2, h.1.2, h.2⟩
theorem df_at {k : Nat} {d : Df} (e : defsL[k]? = some d) : fdChk K d.a = true ∧ ((d.vs.take d.np).all fun x => (fdK K d.a).scope.names.lookup x == some .local) = true ∧ parChk (fdK K d.a) (d.vs.take d.np) = true ∧ compSs ⟨d.vs, (fdK K d.a).scope, theGlobs, theAttrs⟩ (stmtsOf (fdK K d.a)) = some d.b := by
  have h := List.all_eq_true.mp (c2_all C).2.2.2 d (List.mem_of_getElem? e)
  unfold dfChk at h
  simp only [Bool.and_eq_true] at h
  refine ⟨h.1.1, h.1.2, h.2, ?_⟩
  have q := congrArg (·[k]?) C.c3
  unfold chk3 at q
  simp only [List.getElem?_map, e, Option.map_some, Option.some.injEq] at q
  exact q
theorem mk_at {k : Nat} {p : Addr × Addr} (e : mkL[k]? = some p) : makesIn K p.1 = true ∧ findIn K (.ref p.1) (Str.ofString "__init__") = some (some (.ref p.2)) ∧ isFn K (.ref p.2) = true := by
  have h := List.all_eq_true.mp (c2_all C).2.2.1 p (List.mem_of_getElem? e)
  unfold mkChk at h
  simp only [Bool.and_eq_true] at h
  exact ⟨h.1.1, eq_of_beq h.1.2, h.2⟩
end
theorem par_is {fd : FuncData} {ns : List Str} (h : parChk fd ns = true) : ∃ l : List Arg, l.map (·.arg) = ns ∧ fd.params = ⟨[], l, none, [], [], none, []⟩ ∧ fd.defaults = .none ∧ fd.kwdefaults = .none := by
  unfold parChk at h
  simp only [Bool.and_eq_true, List.isEmpty_iff, Option.isNone_iff_eq_none, beq_iff_eq] at h
  obtain ⟨⟨⟨⟨⟨⟨⟨⟨h1, h2⟩, h3⟩, h4⟩, h5⟩, h6⟩, h7⟩, h8⟩, h9⟩ := h
  obtain ⟨f1, f2, f3, f4, f5, f6, f7, f8, f9, f10, f11, f12, f13, f14, f15⟩ := fd
  obtain ⟨p1, p2, p3, p4, p5, p6, p7⟩ := f3
  dsimp only at h1 h2 h3 h4 h5 h6 h7 h8 h9
  subst h1 h2 h3 h4 h5 h6
  refine ⟨p2, h7, rfl, ?_, ?_⟩
  · dsimp only; cases f8 <;> first | rfl | cases h8
  · dsimp only; cases f9 <;> first | rfl | cases h9

noncomputable def ZZ {K : Frag} (CK : Chk K) (w : World) (mean : ExcName → Option Value) (mg mb : Str → Option Value) : Wd where
  prog := PySem.Challenge.pw_sa0132_01
  w := w
  K := K
  p := qV
  loose := looseW qV looseL
  mean := mean
  mg := mg
  mb := mb
  attrs := theAttrs
  clss := theClss
  ftab := theFtab
  hCls := fun C hC => by
    have h := List.all_eq_true.mp (c2_all CK).1 C hC
    unfold clsChk at h
    simp only [Bool.and_eq_true] at h
    exact ⟨h.1.1.1, eq_of_beq h.1.1.2, h.1.2⟩
  hAttr := fun C hC x hx => by
    have h := List.all_eq_true.mp (c2_all CK).1 C hC
    unfold clsChk at h
    rw [Bool.and_eq_true] at h
    have q := List.all_eq_true.mp h.2 x hx
    simp only [Bool.and_eq_true] at q
    refine ⟨q.1.1, ?_, eq_of_beq q.2⟩
    have q2 := q.1.2
    split at q2
    · rename_i a ha; exact ⟨a, ha, q2⟩
    · cases q2
  hNd := attrs_nd
  hKeep := fun v hv => List.all_eq_true.mp (c2_all CK).2.1 v hv
section
variable {K : Frag} (CK : Chk K) (w : World) (mean : ExcName → Option Value) (mg mb : Str → Option Value)
include CK in
theorem globs_at {x : Str} {g : G} (h : theGlobs x = some g) : (x = Str.ofString "range" ∧ g = .rng) ∨ (x = Str.ofString "len" ∧ g = .len) ∨ (x = Str.ofString "list" ∧ g = .lst) ∨ gchk K x g = true := by
  unfold theGlobs at h
  split at h
  · rename_i q; cases h; exact .inl ⟨eq_of_beq q, rfl⟩
  split at h
  · rename_i q; cases h; exact .inr (.inl ⟨eq_of_beq q, rfl⟩)
  split at h
  · rename_i q; cases h; exact .inr (.inr (.inl ⟨eq_of_beq q, rfl⟩))
  exact .inr (.inr (.inr (List.all_eq_true.mp (gchk_all CK) _ (lookup_mem h))))
theorem globs_ok : GlobsOk (ZZ CK w mean mg mb) theGlobs where
  int := fun x i h => by
    rcases globs_at CK h with ⟨_, q⟩ | ⟨_, q⟩ | ⟨_, q⟩ | q
    · cases q
    · cases q
    · cases q
    · exact gchk_int q
  fn := fun x i h => by
    rcases globs_at CK h with ⟨_, q⟩ | ⟨_, q⟩ | ⟨_, q⟩ | q
    · cases q
    · cases q
    · cases q
    · exact gchk_fn q
  tab := fun x i h => by
    rcases globs_at CK h with ⟨_, q⟩ | ⟨_, q⟩ | ⟨_, q⟩ | q
    · cases q
    · cases q
    · cases q
    · exact gchk_tab q
  rng := fun x h => by
    rcases globs_at CK h with ⟨rfl, q⟩ | ⟨_, q⟩ | ⟨_, q⟩ | q
    · exact ⟨nsIn_range CK, boot_range, by decide⟩
    · cases q
    · cases q
    · cases q
  len := fun x h => by
    rcases globs_at CK h with ⟨_, q⟩ | ⟨rfl, q⟩ | ⟨_, q⟩ | q
    · cases q
    · exact ⟨nsIn_len CK, boot_len, by decide⟩
    · cases q
    · cases q
  lst := fun x h => by
    rcases globs_at CK h with ⟨_, q⟩ | ⟨_, q⟩ | ⟨rfl, q⟩ | q
    · cases q
    · cases q
    · exact ⟨nsIn_list CK, boot_list, by decide⟩
    · cases q

theorem fd_is {K : Frag} {a : Addr} (h : fdChk K a = true) : ∃ oc od osl, K.lookup a = some ⟨oc, od, .func (fnOf (fdK K a).name (fdK K a).qualname (fdK K a).params (stmtsOf (fdK K a)) (fdK K a).scope (fdK K a).defaults (fdK K a).kwdefaults (fdK K a).doc (fdK K a).pyModule (fdK K a).annotations (fdK K a).code (fdK K a).closureTuple), osl⟩ ∧
    codeIn K (fdK K a).code (fdK K a).qualname = true ∧ (fdK K a).scope.isCoroutine = false ∧ (fdK K a).scope.isGenerator = false ∧ (fdK K a).scope.kind = .function ∧ ∀ x ∈ (fdK K a).scope.names, x.2 ≠ .cell := by
  unfold fdChk at h
  split at h
  · rename_i oc od fd osl e
    have hf : fdK K a = fd := by unfold fdK fdAt; rw [e]; rfl
    rw [hf]
    simp only [Bool.and_eq_true, Bool.not_eq_true', beq_iff_eq] at h
    obtain ⟨⟨⟨⟨⟨⟨⟨⟨h1, h2⟩, h3⟩, h4⟩, h5⟩, h6⟩, h7⟩, h8⟩, h9⟩ := h
    refine ⟨oc, od, osl, ?_, h5, h6, h7, h8, fun x hx => ?_⟩
    · rw [e]
      obtain ⟨f1, f2, f3, f4, f5, f6, f7, f8, f9, f10, f11, f12, f13, f14, f15⟩ := fd
      dsimp only at h1 h2 h3 h4
      cases f4 with
      | stmts b =>
        have : f7 = [] := List.isEmpty_iff.mp h3
        subst h2 h4 this
        rfl
      | expr b => cases h1
    · have := List.all_eq_true.mp h9 x hx
      simpa using this
  · cases h
theorem link {r : Nat} {O : Orc} {a : Addr} {np : Nat} {vs : List Str} {b : List S} {W : List AV → Hp → (AV → Hp → Prop) → Prop} (hf : fdChk K a = true)
    (hb : ∀ xs : List Value, xs.length = np → bindArgs (fnOf (fdK K a).name (fdK K a).qualname (fdK K a).params (stmtsOf (fdK K a)) (fdK K a).scope (fdK K a).defaults (fdK K a).kwdefaults (fdK K a).doc (fdK K a).pyModule (fdK K a).annotations (fdK K a).code (fdK K a).closureTuple) ⟨xs, []⟩ = pure ((vs.take np).zip xs))
    (hl : ((vs.take np).all fun x => (fdK K a).scope.names.lookup x == some .local) = true) (nd : vs.Nodup) (hc : compSs ⟨vs, (fdK K a).scope, theGlobs, theAttrs⟩ (stmtsOf (fdK K a)) = some b)
    (orc : ∀ f v, theFtab[f]? = some v → CallOk (ZZ CK w mean mg mb) r v (O f))
    (hW : ∀ args H Q, W args H Q → args.length = np ∧ wSs O b (args ++ List.replicate (vs.length - np) .undef) H (fun fl _ H' => Q (retOf fl) H')) : CodeOk (ZZ CK w mean mg mb) (r + 1) a W := by
  obtain ⟨oc, od, osl, h1, h2, h3, h4, h5, h6⟩ := fd_is hf
  exact def_ok (Z := ZZ CK w mean mg mb) (c := ⟨vs, (fdK K a).scope, theGlobs, theAttrs⟩) h1 h2 hb (fun x hx => eq_of_beq (List.all_eq_true.mp hl x hx)) h3 h4 h5 h6 nd (globs_ok CK w mean mg mb) rfl hc orc hW
end
noncomputable abbrev BindOf (l : List Arg) (xs : List Value) (r : List (Str × Value)) : Prop := ∀ (name qual : Str) (body : List Stmt) (scope : Scope) (doc pm cd ct : Value) (an : Option Addr), bindArgs (fnOf name qual ⟨[], l, none, [], [], none, []⟩ body scope .none .none doc pm an cd ct) ⟨xs, []⟩ = pure r
theorem bind_of {K : Frag} {a : Addr} {l : List Arg} {xs : List Value} {r : List (Str × Value)} (e2 : (fdK K a).params = ⟨[], l, none, [], [], none, []⟩) (e3 : (fdK K a).defaults = .none) (e4 : (fdK K a).kwdefaults = .none) (h : BindOf l xs r) : bindArgs (fnOf (fdK K a).name (fdK K a).qualname (fdK K a).params (stmtsOf (fdK K a)) (fdK K a).scope (fdK K a).defaults (fdK K a).kwdefaults (fdK K a).doc (fdK K a).pyModule (fdK K a).annotations (fdK K a).code (fdK K a).closureTuple) ⟨xs, []⟩ = pure r := by
  rw [e2, e3, e4]; exact h _ _ _ _ _ _ _ _ _
theorem args_s : ∀ {l : List Arg} {n : Str} {r : List Str}, l.map (·.arg) = n :: r → ∃ a q t, l = ⟨n, a, q⟩ :: t ∧ t.map (·.arg) = r
  | ⟨_, a, q⟩ :: t, _, _, h => by cases h; exact ⟨a, q, t, rfl, rfl⟩
theorem len_s : ∀ {xs : List Value} {n : Nat}, xs.length = n + 1 → ∃ x t, xs = x :: t ∧ t.length = n
  | x :: t, _, h => ⟨x, t, rfl, Nat.succ.inj h⟩
theorem args1 {l : List Arg} {n0 : Str} (h : l.map (·.arg) = [n0]) : ∃ a0 q0, l = [⟨n0, a0, q0⟩] := by
  obtain ⟨a0, q0, t, e, h⟩ := args_s h
  exact ⟨a0, q0, e.trans (congrArg _ (List.map_eq_nil_iff.mp h))⟩
theorem len1 {xs : List Value} (h : xs.length = 1) : ∃ x0, xs = [x0] := by
  obtain ⟨x0, t, e, h⟩ := len_s h
  exact ⟨x0, e.trans (congrArg _ (List.length_eq_zero_iff.mp h))⟩
noncomputable abbrev Bo1 (n0 : Str) : Prop := ∀ a0 q0 x0, BindOf [⟨n0, a0, q0⟩] [x0] [(n0, x0)]
theorem bindn1 {K : Frag} {a : Addr} {n0 : Str} (h : parChk (fdK K a) [n0] = true) (H : Bo1 n0) : ∀ xs : List Value, xs.length = 1 → bindArgs (fnOf (fdK K a).name (fdK K a).qualname (fdK K a).params (stmtsOf (fdK K a)) (fdK K a).scope (fdK K a).defaults (fdK K a).kwdefaults (fdK K a).doc (fdK K a).pyModule (fdK K a).annotations (fdK K a).code (fdK K a).closureTuple) ⟨xs, []⟩ = pure ([n0].zip xs) := by
  intro xs hx
  obtain ⟨l, e1, e2, e3, e4⟩ := par_is h
  obtain ⟨a0, q0, rfl⟩ := args1 e1
  obtain ⟨x0, rfl⟩ := len1 hx
  exact bind_of e2 e3 e4 (H _ _ _)
theorem args2 {l : List Arg} {n0 n1 : Str} (h : l.map (·.arg) = [n0, n1]) : ∃ a0 q0 a1 q1, l = [⟨n0, a0, q0⟩, ⟨n1, a1, q1⟩] := by
  obtain ⟨a0, q0, t, e, h⟩ := args_s h
  obtain ⟨a1, q1, f⟩ := args1 h
  exact ⟨a0, q0, a1, q1, e.trans (congrArg _ f)⟩
theorem len2 {xs : List Value} (h : xs.length = 2) : ∃ x0 x1, xs = [x0, x1] := by
  obtain ⟨x0, t, e, h⟩ := len_s h
  obtain ⟨x1, f⟩ := len1 h
  exact ⟨x0, x1, e.trans (congrArg _ f)⟩
noncomputable abbrev Bo2 (n0 n1 : Str) : Prop := ∀ a0 q0 a1 q1 x0 x1, BindOf [⟨n0, a0, q0⟩, ⟨n1, a1, q1⟩] [x0, x1] [(n0, x0), (n1, x1)]
theorem bindn2 {K : Frag} {a : Addr} {n0 n1 : Str} (h : parChk (fdK K a) [n0, n1] = true) (H : Bo2 n0 n1) : ∀ xs : List Value, xs.length = 2 → bindArgs (fnOf (fdK K a).name (fdK K a).qualname (fdK K a).params (stmtsOf (fdK K a)) (fdK K a).scope (fdK K a).defaults (fdK K a).kwdefaults (fdK K a).doc (fdK K a).pyModule (fdK K a).annotations (fdK K a).code (fdK K a).closureTuple) ⟨xs, []⟩ = pure ([n0, n1].zip xs) := by
  intro xs hx
  obtain ⟨l, e1, e2, e3, e4⟩ := par_is h
  obtain ⟨a0, q0, a1, q1, rfl⟩ := args2 e1
  obtain ⟨x0, x1, rfl⟩ := len2 hx
  exact bind_of e2 e3 e4 (H _ _ _ _ _ _)
theorem args3 {l : List Arg} {n0 n1 n2 : Str} (h : l.map (·.arg) = [n0, n1, n2]) : ∃ a0 q0 a1 q1 a2 q2, l = [⟨n0, a0, q0⟩, ⟨n1, a1, q1⟩, ⟨n2, a2, q2⟩] := by
  obtain ⟨a0, q0, t, e, h⟩ := args_s h
  obtain ⟨a1, q1, a2, q2, f⟩ := args2 h
  exact ⟨a0, q0, a1, q1, a2, q2, e.trans (congrArg _ f)⟩
theorem len3 {xs : List Value} (h : xs.length = 3) : ∃ x0 x1 x2, xs = [x0, x1, x2] := by
  obtain ⟨x0, t, e, h⟩ := len_s h
  obtain ⟨x1, x2, f⟩ := len2 h
  exact ⟨x0, x1, x2, e.trans (congrArg _ f)⟩
noncomputable abbrev Bo3 (n0 n1 n2 : Str) : Prop := ∀ a0 q0 a1 q1 a2 q2 x0 x1 x2, BindOf [⟨n0, a0, q0⟩, ⟨n1, a1, q1⟩, ⟨n2, a2, q2⟩] [x0, x1, x2] [(n0, x0), (n1, x1), (n2, x2)]
theorem bindn3 {K : Frag} {a : Addr} {n0 n1 n2 : Str} (h : parChk (fdK K a) [n0, n1, n2] = true) (H : Bo3 n0 n1 n2) : ∀ xs : List Value, xs.length = 3 → bindArgs (fnOf (fdK K a).name (fdK K a).qualname (fdK K a).params (stmtsOf (fdK K a)) (fdK K a).scope (fdK K a).defaults (fdK K a).kwdefaults (fdK K a).doc (fdK K a).pyModule (fdK K a).annotations (fdK K a).code (fdK K a).closureTuple) ⟨xs, []⟩ = pure ([n0, n1, n2].zip xs) := by
  intro xs hx
  obtain ⟨l, e1, e2, e3, e4⟩ := par_is h
  obtain ⟨a0, q0, a1, q1, a2, q2, rfl⟩ := args3 e1
  obtain ⟨x0, x1, x2, rfl⟩ := len3 hx
  exact bind_of e2 e3 e4 (H _ _ _ _ _ _ _ _ _)
theorem args4 {l : List Arg} {n0 n1 n2 n3 : Str} (h : l.map (·.arg) = [n0, n1, n2, n3]) : ∃ a0 q0 a1 q1 a2 q2 a3 q3, l = [⟨n0, a0, q0⟩, ⟨n1, a1, q1⟩, ⟨n2, a2, q2⟩, ⟨n3, a3, q3⟩] := by
  obtain ⟨a0, q0, t, e, h⟩ := args_s h
  obtain ⟨a1, q1, a2, q2, a3, q3, f⟩ := args3 h
  exact ⟨a0, q0, a1, q1, a2, q2, a3, q3, e.trans (congrArg _ f)⟩
theorem len4 {xs : List Value} (h : xs.length = 4) : ∃ x0 x1 x2 x3, xs = [x0, x1, x2, x3] := by
  obtain ⟨x0, t, e, h⟩ := len_s h
  obtain ⟨x1, x2, x3, f⟩ := len3 h
  exact ⟨x0, x1, x2, x3, e.trans (congrArg _ f)⟩
noncomputable abbrev Bo4 (n0 n1 n2 n3 : Str) : Prop := ∀ a0 q0 a1 q1 a2 q2 a3 q3 x0 x1 x2 x3, BindOf [⟨n0, a0, q0⟩, ⟨n1, a1, q1⟩, ⟨n2, a2, q2⟩, ⟨n3, a3, q3⟩] [x0, x1, x2, x3] [(n0, x0), (n1, x1), (n2, x2), (n3, x3)]
theorem bindn4 {K : Frag} {a : Addr} {n0 n1 n2 n3 : Str} (h : parChk (fdK K a) [n0, n1, n2, n3] = true) (H : Bo4 n0 n1 n2 n3) : ∀ xs : List Value, xs.length = 4 → bindArgs (fnOf (fdK K a).name (fdK K a).qualname (fdK K a).params (stmtsOf (fdK K a)) (fdK K a).scope (fdK K a).defaults (fdK K a).kwdefaults (fdK K a).doc (fdK K a).pyModule (fdK K a).annotations (fdK K a).code (fdK K a).closureTuple) ⟨xs, []⟩ = pure ([n0, n1, n2, n3].zip xs) := by
  intro xs hx
  obtain ⟨l, e1, e2, e3, e4⟩ := par_is h
  obtain ⟨a0, q0, a1, q1, a2, q2, a3, q3, rfl⟩ := args4 e1
  obtain ⟨x0, x1, x2, x3, rfl⟩ := len4 hx
  exact bind_of e2 e3 e4 (H _ _ _ _ _ _ _ _ _ _ _ _)
theorem args5 {l : List Arg} {n0 n1 n2 n3 n4 : Str} (h : l.map (·.arg) = [n0, n1, n2, n3, n4]) : ∃ a0 q0 a1 q1 a2 q2 a3 q3 a4 q4, l = [⟨n0, a0, q0⟩, ⟨n1, a1, q1⟩, ⟨n2, a2, q2⟩, ⟨n3, a3, q3⟩, ⟨n4, a4, q4⟩] := by
  obtain ⟨a0, q0, t, e, h⟩ := args_s h
  obtain ⟨a1, q1, a2, q2, a3, q3, a4, q4, f⟩ := args4 h
  exact ⟨a0, q0, a1, q1, a2, q2, a3, q3, a4, q4, e.trans (congrArg _ f)⟩
theorem len5 {xs : List Value} (h : xs.length = 5) : ∃ x0 x1 x2 x3 x4, xs = [x0, x1, x2, x3, x4] := by
  obtain ⟨x0, t, e, h⟩ := len_s h
  obtain ⟨x1, x2, x3, x4, f⟩ := len4 h
  exact ⟨x0, x1, x2, x3, x4, e.trans (congrArg _ f)⟩
noncomputable abbrev Bo5 (n0 n1 n2 n3 n4 : Str) : Prop := ∀ a0 q0 a1 q1 a2 q2 a3 q3 a4 q4 x0 x1 x2 x3 x4, BindOf [⟨n0, a0, q0⟩, ⟨n1, a1, q1⟩, ⟨n2, a2, q2⟩, ⟨n3, a3, q3⟩, ⟨n4, a4, q4⟩] [x0, x1, x2, x3, x4] [(n0, x0), (n1, x1), (n2, x2), (n3, x3), (n4, x4)]
theorem bindn5 {K : Frag} {a : Addr} {n0 n1 n2 n3 n4 : Str} (h : parChk (fdK K a) [n0, n1, n2, n3, n4] = true) (H : Bo5 n0 n1 n2 n3 n4) : ∀ xs : List Value, xs.length = 5 → bindArgs (fnOf (fdK K a).name (fdK K a).qualname (fdK K a).params (stmtsOf (fdK K a)) (fdK K a).scope (fdK K a).defaults (fdK K a).kwdefaults (fdK K a).doc (fdK K a).pyModule (fdK K a).annotations (fdK K a).code (fdK K a).closureTuple) ⟨xs, []⟩ = pure ([n0, n1, n2, n3, n4].zip xs) := by
  intro xs hx
  obtain ⟨l, e1, e2, e3, e4⟩ := par_is h
  obtain ⟨a0, q0, a1, q1, a2, q2, a3, q3, a4, q4, rfl⟩ := args5 e1
  obtain ⟨x0, x1, x2, x3, x4, rfl⟩ := len5 hx
  exact bind_of e2 e3 e4 (H _ _ _ _ _ _ _ _ _ _ _ _ _ _ _)
theorem nd_make_piece : v_make_piece.Nodup := by decide +kernel
theorem bo_0 : Bo2 (Str.ofString "side") (Str.ofString "kind") := fun _ _ _ _ _ _ _ _ _ _ _ _ _ _ _ => by kernel_rfl
theorem bind_make_piece {K : Frag} (CK : Chk K) : ∀ xs : List Value, xs.length = 2 → bindArgs (fnOf (fdK K 21).name (fdK K 21).qualname (fdK K 21).params (stmtsOf (fdK K 21)) (fdK K 21).scope (fdK K 21).defaults (fdK K 21).kwdefaults (fdK K 21).doc (fdK K 21).pyModule (fdK K 21).annotations (fdK K 21).code (fdK K 21).closureTuple) ⟨xs, []⟩ = pure ((v_make_piece.take 2).zip xs) := bindn2 (df_at CK (k := 0) rfl).2.2.1 bo_0
theorem nd_side_of : v_side_of.Nodup := by decide +kernel
theorem bo_1 : Bo1 (Str.ofString "piece") := fun _ _ _ _ _ _ _ _ _ _ _ _ => by kernel_rfl
theorem bind_side_of {K : Frag} (CK : Chk K) : ∀ xs : List Value, xs.length = 1 → bindArgs (fnOf (fdK K 28).name (fdK K 28).qualname (fdK K 28).params (stmtsOf (fdK K 28)) (fdK K 28).scope (fdK K 28).defaults (fdK K 28).kwdefaults (fdK K 28).doc (fdK K 28).pyModule (fdK K 28).annotations (fdK K 28).code (fdK K 28).closureTuple) ⟨xs, []⟩ = pure ((v_side_of.take 1).zip xs) := bindn1 (df_at CK (k := 1) rfl).2.2.1 bo_1
theorem nd_kind_of : v_kind_of.Nodup := by decide +kernel
theorem bind_kind_of {K : Frag} (CK : Chk K) : ∀ xs : List Value, xs.length = 1 → bindArgs (fnOf (fdK K 35).name (fdK K 35).qualname (fdK K 35).params (stmtsOf (fdK K 35)) (fdK K 35).scope (fdK K 35).defaults (fdK K 35).kwdefaults (fdK K 35).doc (fdK K 35).pyModule (fdK K 35).annotations (fdK K 35).code (fdK K 35).closureTuple) ⟨xs, []⟩ = pure ((v_kind_of.take 1).zip xs) := bindn1 (df_at CK (k := 2) rfl).2.2.1 bo_1
theorem nd_highest : v_highest.Nodup := by decide +kernel
theorem bo_2 : Bo1 (Str.ofString "b") := fun _ _ _ _ _ _ _ _ _ _ _ _ => by kernel_rfl
theorem bind_highest {K : Frag} (CK : Chk K) : ∀ xs : List Value, xs.length = 1 → bindArgs (fnOf (fdK K 42).name (fdK K 42).qualname (fdK K 42).params (stmtsOf (fdK K 42)) (fdK K 42).scope (fdK K 42).defaults (fdK K 42).kwdefaults (fdK K 42).doc (fdK K 42).pyModule (fdK K 42).annotations (fdK K 42).code (fdK K 42).closureTuple) ⟨xs, []⟩ = pure ((v_highest.take 1).zip xs) := bindn1 (df_at CK (k := 3) rfl).2.2.1 bo_2
theorem nd_lowest : v_lowest.Nodup := by decide +kernel
theorem bind_lowest {K : Frag} (CK : Chk K) : ∀ xs : List Value, xs.length = 1 → bindArgs (fnOf (fdK K 49).name (fdK K 49).qualname (fdK K 49).params (stmtsOf (fdK K 49)) (fdK K 49).scope (fdK K 49).defaults (fdK K 49).kwdefaults (fdK K 49).doc (fdK K 49).pyModule (fdK K 49).annotations (fdK K 49).code (fdK K 49).closureTuple) ⟨xs, []⟩ = pure ((v_lowest.take 1).zip xs) := bindn1 (df_at CK (k := 4) rfl).2.2.1 bo_2
theorem nd_squares_of : v_squares_of.Nodup := by decide +kernel
theorem bind_squares_of {K : Frag} (CK : Chk K) : ∀ xs : List Value, xs.length = 1 → bindArgs (fnOf (fdK K 56).name (fdK K 56).qualname (fdK K 56).params (stmtsOf (fdK K 56)) (fdK K 56).scope (fdK K 56).defaults (fdK K 56).kwdefaults (fdK K 56).doc (fdK K 56).pyModule (fdK K 56).annotations (fdK K 56).code (fdK K 56).closureTuple) ⟨xs, []⟩ = pure ((v_squares_of.take 1).zip xs) := bindn1 (df_at CK (k := 5) rfl).2.2.1 bo_2
theorem nd_Geometry : v_Geometry.Nodup := by decide +kernel
theorem bo_3 : Bo5 (Str.ofString "self") (Str.ofString "files") (Str.ofString "ranks") (Str.ofString "has_double") (Str.ofString "has_castling") := fun _ _ _ _ _ _ _ _ _ _ _ _ _ _ _ _ _ _ _ _ _ _ _ _ => by kernel_rfl
theorem bind_Geometry {K : Frag} (CK : Chk K) : ∀ xs : List Value, xs.length = 5 → bindArgs (fnOf (fdK K 92).name (fdK K 92).qualname (fdK K 92).params (stmtsOf (fdK K 92)) (fdK K 92).scope (fdK K 92).defaults (fdK K 92).kwdefaults (fdK K 92).doc (fdK K 92).pyModule (fdK K 92).annotations (fdK K 92).code (fdK K 92).closureTuple) ⟨xs, []⟩ = pure ((v_Geometry.take 5).zip xs) := bindn5 (df_at CK (k := 6) rfl).2.2.1 bo_3
theorem nd_is_growing : v_is_growing.Nodup := by decide +kernel
theorem bo_4 : Bo1 (Str.ofString "d") := fun _ _ _ _ _ _ _ _ _ _ _ _ => by kernel_rfl
theorem bind_is_growing {K : Frag} (CK : Chk K) : ∀ xs : List Value, xs.length = 1 → bindArgs (fnOf (fdK K 106).name (fdK K 106).qualname (fdK K 106).params (stmtsOf (fdK K 106)) (fdK K 106).scope (fdK K 106).defaults (fdK K 106).kwdefaults (fdK K 106).doc (fdK K 106).pyModule (fdK K 106).annotations (fdK K 106).code (fdK K 106).closureTuple) ⟨xs, []⟩ = pure ((v_is_growing.take 1).zip xs) := bindn1 (df_at CK (k := 7) rfl).2.2.1 bo_4
theorem nd_add_masks : v_add_masks.Nodup := by decide +kernel
theorem bo_5 : Bo1 (Str.ofString "geo") := fun _ _ _ _ _ _ _ _ _ _ _ _ => by kernel_rfl
theorem bind_add_masks {K : Frag} (CK : Chk K) : ∀ xs : List Value, xs.length = 1 → bindArgs (fnOf (fdK K 113).name (fdK K 113).qualname (fdK K 113).params (stmtsOf (fdK K 113)) (fdK K 113).scope (fdK K 113).defaults (fdK K 113).kwdefaults (fdK K 113).doc (fdK K 113).pyModule (fdK K 113).annotations (fdK K 113).code (fdK K 113).closureTuple) ⟨xs, []⟩ = pure ((v_add_masks.take 1).zip xs) := bindn1 (df_at CK (k := 8) rfl).2.2.1 bo_5
theorem nd_inner_squares : v_inner_squares.Nodup := by decide +kernel
theorem bo_6 : Bo2 (Str.ofString "geo") (Str.ofString "d") := fun _ _ _ _ _ _ _ _ _ _ _ _ _ _ _ => by kernel_rfl
theorem bind_inner_squares {K : Frag} (CK : Chk K) : ∀ xs : List Value, xs.length = 2 → bindArgs (fnOf (fdK K 120).name (fdK K 120).qualname (fdK K 120).params (stmtsOf (fdK K 120)) (fdK K 120).scope (fdK K 120).defaults (fdK K 120).kwdefaults (fdK K 120).doc (fdK K 120).pyModule (fdK K 120).annotations (fdK K 120).code (fdK K 120).closureTuple) ⟨xs, []⟩ = pure ((v_inner_squares.take 2).zip xs) := bindn2 (df_at CK (k := 9) rfl).2.2.1 bo_6
theorem nd_add_rays : v_add_rays.Nodup := by decide +kernel
theorem bind_add_rays {K : Frag} (CK : Chk K) : ∀ xs : List Value, xs.length = 1 → bindArgs (fnOf (fdK K 127).name (fdK K 127).qualname (fdK K 127).params (stmtsOf (fdK K 127)) (fdK K 127).scope (fdK K 127).defaults (fdK K 127).kwdefaults (fdK K 127).doc (fdK K 127).pyModule (fdK K 127).annotations (fdK K 127).code (fdK K 127).closureTuple) ⟨xs, []⟩ = pure ((v_add_rays.take 1).zip xs) := bindn1 (df_at CK (k := 10) rfl).2.2.1 bo_5
theorem nd_add_pawns : v_add_pawns.Nodup := by decide +kernel
theorem bind_add_pawns {K : Frag} (CK : Chk K) : ∀ xs : List Value, xs.length = 1 → bindArgs (fnOf (fdK K 134).name (fdK K 134).qualname (fdK K 134).params (stmtsOf (fdK K 134)) (fdK K 134).scope (fdK K 134).defaults (fdK K 134).kwdefaults (fdK K 134).doc (fdK K 134).pyModule (fdK K 134).annotations (fdK K 134).code (fdK K 134).closureTuple) ⟨xs, []⟩ = pure ((v_add_pawns.take 1).zip xs) := bindn1 (df_at CK (k := 11) rfl).2.2.1 bo_5
theorem nd_add_knights : v_add_knights.Nodup := by decide +kernel
theorem bind_add_knights {K : Frag} (CK : Chk K) : ∀ xs : List Value, xs.length = 1 → bindArgs (fnOf (fdK K 141).name (fdK K 141).qualname (fdK K 141).params (stmtsOf (fdK K 141)) (fdK K 141).scope (fdK K 141).defaults (fdK K 141).kwdefaults (fdK K 141).doc (fdK K 141).pyModule (fdK K 141).annotations (fdK K 141).code (fdK K 141).closureTuple) ⟨xs, []⟩ = pure ((v_add_knights.take 1).zip xs) := bindn1 (df_at CK (k := 12) rfl).2.2.1 bo_5
theorem nd_add_castles : v_add_castles.Nodup := by decide +kernel
theorem bind_add_castles {K : Frag} (CK : Chk K) : ∀ xs : List Value, xs.length = 1 → bindArgs (fnOf (fdK K 148).name (fdK K 148).qualname (fdK K 148).params (stmtsOf (fdK K 148)) (fdK K 148).scope (fdK K 148).defaults (fdK K 148).kwdefaults (fdK K 148).doc (fdK K 148).pyModule (fdK K 148).annotations (fdK K 148).code (fdK K 148).closureTuple) ⟨xs, []⟩ = pure ((v_add_castles.take 1).zip xs) := bindn1 (df_at CK (k := 13) rfl).2.2.1 bo_5
theorem nd_make_geometry : v_make_geometry.Nodup := by decide +kernel
theorem bo_7 : Bo4 (Str.ofString "files") (Str.ofString "ranks") (Str.ofString "has_double") (Str.ofString "has_castling") := fun _ _ _ _ _ _ _ _ _ _ _ _ _ _ _ _ _ _ _ _ _ => by kernel_rfl
theorem bind_make_geometry {K : Frag} (CK : Chk K) : ∀ xs : List Value, xs.length = 4 → bindArgs (fnOf (fdK K 155).name (fdK K 155).qualname (fdK K 155).params (stmtsOf (fdK K 155)) (fdK K 155).scope (fdK K 155).defaults (fdK K 155).kwdefaults (fdK K 155).doc (fdK K 155).pyModule (fdK K 155).annotations (fdK K 155).code (fdK K 155).closureTuple) ⟨xs, []⟩ = pure ((v_make_geometry.take 4).zip xs) := bindn4 (df_at CK (k := 14) rfl).2.2.1 bo_7
theorem nd_ray_attacks : v_ray_attacks.Nodup := by decide +kernel
theorem bo_8 : Bo4 (Str.ofString "geo") (Str.ofString "d") (Str.ofString "square") (Str.ofString "occupied") := fun _ _ _ _ _ _ _ _ _ _ _ _ _ _ _ _ _ _ _ _ _ => by kernel_rfl
theorem bind_ray_attacks {K : Frag} (CK : Chk K) : ∀ xs : List Value, xs.length = 4 → bindArgs (fnOf (fdK K 162).name (fdK K 162).qualname (fdK K 162).params (stmtsOf (fdK K 162)) (fdK K 162).scope (fdK K 162).defaults (fdK K 162).kwdefaults (fdK K 162).doc (fdK K 162).pyModule (fdK K 162).annotations (fdK K 162).code (fdK K 162).closureTuple) ⟨xs, []⟩ = pure ((v_ray_attacks.take 4).zip xs) := bindn4 (df_at CK (k := 15) rfl).2.2.1 bo_8
theorem nd_rook_attacks : v_rook_attacks.Nodup := by decide +kernel
theorem bo_9 : Bo3 (Str.ofString "geo") (Str.ofString "square") (Str.ofString "occupied") := fun _ _ _ _ _ _ _ _ _ _ _ _ _ _ _ _ _ _ => by kernel_rfl
theorem bind_rook_attacks {K : Frag} (CK : Chk K) : ∀ xs : List Value, xs.length = 3 → bindArgs (fnOf (fdK K 169).name (fdK K 169).qualname (fdK K 169).params (stmtsOf (fdK K 169)) (fdK K 169).scope (fdK K 169).defaults (fdK K 169).kwdefaults (fdK K 169).doc (fdK K 169).pyModule (fdK K 169).annotations (fdK K 169).code (fdK K 169).closureTuple) ⟨xs, []⟩ = pure ((v_rook_attacks.take 3).zip xs) := bindn3 (df_at CK (k := 16) rfl).2.2.1 bo_9
theorem nd_bishop_attacks : v_bishop_attacks.Nodup := by decide +kernel
theorem bind_bishop_attacks {K : Frag} (CK : Chk K) : ∀ xs : List Value, xs.length = 3 → bindArgs (fnOf (fdK K 176).name (fdK K 176).qualname (fdK K 176).params (stmtsOf (fdK K 176)) (fdK K 176).scope (fdK K 176).defaults (fdK K 176).kwdefaults (fdK K 176).doc (fdK K 176).pyModule (fdK K 176).annotations (fdK K 176).code (fdK K 176).closureTuple) ⟨xs, []⟩ = pure ((v_bishop_attacks.take 3).zip xs) := bindn3 (df_at CK (k := 17) rfl).2.2.1 bo_9
theorem nd_queen_attacks : v_queen_attacks.Nodup := by decide +kernel
theorem bind_queen_attacks {K : Frag} (CK : Chk K) : ∀ xs : List Value, xs.length = 3 → bindArgs (fnOf (fdK K 183).name (fdK K 183).qualname (fdK K 183).params (stmtsOf (fdK K 183)) (fdK K 183).scope (fdK K 183).defaults (fdK K 183).kwdefaults (fdK K 183).doc (fdK K 183).pyModule (fdK K 183).annotations (fdK K 183).code (fdK K 183).closureTuple) ⟨xs, []⟩ = pure ((v_queen_attacks.take 3).zip xs) := bindn3 (df_at CK (k := 18) rfl).2.2.1 bo_9
theorem nd_slider_attacks : v_slider_attacks.Nodup := by decide +kernel
theorem bo_10 : Bo4 (Str.ofString "geo") (Str.ofString "kind") (Str.ofString "square") (Str.ofString "occupied") := fun _ _ _ _ _ _ _ _ _ _ _ _ _ _ _ _ _ _ _ _ _ => by kernel_rfl
theorem bind_slider_attacks {K : Frag} (CK : Chk K) : ∀ xs : List Value, xs.length = 4 → bindArgs (fnOf (fdK K 190).name (fdK K 190).qualname (fdK K 190).params (stmtsOf (fdK K 190)) (fdK K 190).scope (fdK K 190).defaults (fdK K 190).kwdefaults (fdK K 190).doc (fdK K 190).pyModule (fdK K 190).annotations (fdK K 190).code (fdK K 190).closureTuple) ⟨xs, []⟩ = pure ((v_slider_attacks.take 4).zip xs) := bindn4 (df_at CK (k := 19) rfl).2.2.1 bo_10
theorem nd_piece_attacks : v_piece_attacks.Nodup := by decide +kernel
theorem bo_11 : Bo5 (Str.ofString "geo") (Str.ofString "side") (Str.ofString "kind") (Str.ofString "square") (Str.ofString "occupied") := fun _ _ _ _ _ _ _ _ _ _ _ _ _ _ _ _ _ _ _ _ _ _ _ _ => by kernel_rfl
theorem bind_piece_attacks {K : Frag} (CK : Chk K) : ∀ xs : List Value, xs.length = 5 → bindArgs (fnOf (fdK K 197).name (fdK K 197).qualname (fdK K 197).params (stmtsOf (fdK K 197)) (fdK K 197).scope (fdK K 197).defaults (fdK K 197).kwdefaults (fdK K 197).doc (fdK K 197).pyModule (fdK K 197).annotations (fdK K 197).code (fdK K 197).closureTuple) ⟨xs, []⟩ = pure ((v_piece_attacks.take 5).zip xs) := bindn5 (df_at CK (k := 20) rfl).2.2.1 bo_11
theorem nd_Position : v_Position.Nodup := by decide +kernel
theorem bo_12 : Bo3 (Str.ofString "self") (Str.ofString "geo") (Str.ofString "zob") := fun _ _ _ _ _ _ _ _ _ _ _ _ _ _ _ _ _ _ => by kernel_rfl
theorem bind_Position {K : Frag} (CK : Chk K) : ∀ xs : List Value, xs.length = 3 → bindArgs (fnOf (fdK K 211).name (fdK K 211).qualname (fdK K 211).params (stmtsOf (fdK K 211)) (fdK K 211).scope (fdK K 211).defaults (fdK K 211).kwdefaults (fdK K 211).doc (fdK K 211).pyModule (fdK K 211).annotations (fdK K 211).code (fdK K 211).closureTuple) ⟨xs, []⟩ = pure ((v_Position.take 3).zip xs) := bindn3 (df_at CK (k := 21) rfl).2.2.1 bo_12
theorem nd_put_piece : v_put_piece.Nodup := by decide +kernel
theorem bo_13 : Bo3 (Str.ofString "pos") (Str.ofString "piece") (Str.ofString "s") := fun _ _ _ _ _ _ _ _ _ _ _ _ _ _ _ _ _ _ => by kernel_rfl
theorem bind_put_piece {K : Frag} (CK : Chk K) : ∀ xs : List Value, xs.length = 3 → bindArgs (fnOf (fdK K 225).name (fdK K 225).qualname (fdK K 225).params (stmtsOf (fdK K 225)) (fdK K 225).scope (fdK K 225).defaults (fdK K 225).kwdefaults (fdK K 225).doc (fdK K 225).pyModule (fdK K 225).annotations (fdK K 225).code (fdK K 225).closureTuple) ⟨xs, []⟩ = pure ((v_put_piece.take 3).zip xs) := bindn3 (df_at CK (k := 22) rfl).2.2.1 bo_13
theorem nd_take_piece : v_take_piece.Nodup := by decide +kernel
theorem bo_14 : Bo2 (Str.ofString "pos") (Str.ofString "s") := fun _ _ _ _ _ _ _ _ _ _ _ _ _ _ _ => by kernel_rfl
theorem bind_take_piece {K : Frag} (CK : Chk K) : ∀ xs : List Value, xs.length = 2 → bindArgs (fnOf (fdK K 232).name (fdK K 232).qualname (fdK K 232).params (stmtsOf (fdK K 232)) (fdK K 232).scope (fdK K 232).defaults (fdK K 232).kwdefaults (fdK K 232).doc (fdK K 232).pyModule (fdK K 232).annotations (fdK K 232).code (fdK K 232).closureTuple) ⟨xs, []⟩ = pure ((v_take_piece.take 2).zip xs) := bindn2 (df_at CK (k := 23) rfl).2.2.1 bo_14
theorem nd_shift_piece : v_shift_piece.Nodup := by decide +kernel
theorem bo_15 : Bo3 (Str.ofString "pos") (Str.ofString "a") (Str.ofString "b") := fun _ _ _ _ _ _ _ _ _ _ _ _ _ _ _ _ _ _ => by kernel_rfl
theorem bind_shift_piece {K : Frag} (CK : Chk K) : ∀ xs : List Value, xs.length = 3 → bindArgs (fnOf (fdK K 239).name (fdK K 239).qualname (fdK K 239).params (stmtsOf (fdK K 239)) (fdK K 239).scope (fdK K 239).defaults (fdK K 239).kwdefaults (fdK K 239).doc (fdK K 239).pyModule (fdK K 239).annotations (fdK K 239).code (fdK K 239).closureTuple) ⟨xs, []⟩ = pure ((v_shift_piece.take 3).zip xs) := bindn3 (df_at CK (k := 24) rfl).2.2.1 bo_15
theorem nd_occupied : v_occupied.Nodup := by decide +kernel
theorem bo_16 : Bo1 (Str.ofString "pos") := fun _ _ _ _ _ _ _ _ _ _ _ _ => by kernel_rfl
theorem bind_occupied {K : Frag} (CK : Chk K) : ∀ xs : List Value, xs.length = 1 → bindArgs (fnOf (fdK K 246).name (fdK K 246).qualname (fdK K 246).params (stmtsOf (fdK K 246)) (fdK K 246).scope (fdK K 246).defaults (fdK K 246).kwdefaults (fdK K 246).doc (fdK K 246).pyModule (fdK K 246).annotations (fdK K 246).code (fdK K 246).closureTuple) ⟨xs, []⟩ = pure ((v_occupied.take 1).zip xs) := bindn1 (df_at CK (k := 25) rfl).2.2.1 bo_16
theorem nd_king_square : v_king_square.Nodup := by decide +kernel
theorem bo_17 : Bo2 (Str.ofString "pos") (Str.ofString "side") := fun _ _ _ _ _ _ _ _ _ _ _ _ _ _ _ => by kernel_rfl
theorem bind_king_square {K : Frag} (CK : Chk K) : ∀ xs : List Value, xs.length = 2 → bindArgs (fnOf (fdK K 253).name (fdK K 253).qualname (fdK K 253).params (stmtsOf (fdK K 253)) (fdK K 253).scope (fdK K 253).defaults (fdK K 253).kwdefaults (fdK K 253).doc (fdK K 253).pyModule (fdK K 253).annotations (fdK K 253).code (fdK K 253).closureTuple) ⟨xs, []⟩ = pure ((v_king_square.take 2).zip xs) := bindn2 (df_at CK (k := 26) rfl).2.2.1 bo_17
theorem nd_copy_position : v_copy_position.Nodup := by decide +kernel
theorem bind_copy_position {K : Frag} (CK : Chk K) : ∀ xs : List Value, xs.length = 1 → bindArgs (fnOf (fdK K 260).name (fdK K 260).qualname (fdK K 260).params (stmtsOf (fdK K 260)) (fdK K 260).scope (fdK K 260).defaults (fdK K 260).kwdefaults (fdK K 260).doc (fdK K 260).pyModule (fdK K 260).annotations (fdK K 260).code (fdK K 260).closureTuple) ⟨xs, []⟩ = pure ((v_copy_position.take 1).zip xs) := bindn1 (df_at CK (k := 27) rfl).2.2.1 bo_16
theorem nd_straight_sliders : v_straight_sliders.Nodup := by decide +kernel
theorem bind_straight_sliders {K : Frag} (CK : Chk K) : ∀ xs : List Value, xs.length = 1 → bindArgs (fnOf (fdK K 267).name (fdK K 267).qualname (fdK K 267).params (stmtsOf (fdK K 267)) (fdK K 267).scope (fdK K 267).defaults (fdK K 267).kwdefaults (fdK K 267).doc (fdK K 267).pyModule (fdK K 267).annotations (fdK K 267).code (fdK K 267).closureTuple) ⟨xs, []⟩ = pure ((v_straight_sliders.take 1).zip xs) := bindn1 (df_at CK (k := 28) rfl).2.2.1 bo_16
theorem nd_slanting_sliders : v_slanting_sliders.Nodup := by decide +kernel
theorem bind_slanting_sliders {K : Frag} (CK : Chk K) : ∀ xs : List Value, xs.length = 1 → bindArgs (fnOf (fdK K 274).name (fdK K 274).qualname (fdK K 274).params (stmtsOf (fdK K 274)) (fdK K 274).scope (fdK K 274).defaults (fdK K 274).kwdefaults (fdK K 274).doc (fdK K 274).pyModule (fdK K 274).annotations (fdK K 274).code (fdK K 274).closureTuple) ⟨xs, []⟩ = pure ((v_slanting_sliders.take 1).zip xs) := bindn1 (df_at CK (k := 29) rfl).2.2.1 bo_16
theorem nd_pawn_attackers : v_pawn_attackers.Nodup := by decide +kernel
theorem bo_18 : Bo3 (Str.ofString "pos") (Str.ofString "square") (Str.ofString "side") := fun _ _ _ _ _ _ _ _ _ _ _ _ _ _ _ _ _ _ => by kernel_rfl
theorem bind_pawn_attackers {K : Frag} (CK : Chk K) : ∀ xs : List Value, xs.length = 3 → bindArgs (fnOf (fdK K 281).name (fdK K 281).qualname (fdK K 281).params (stmtsOf (fdK K 281)) (fdK K 281).scope (fdK K 281).defaults (fdK K 281).kwdefaults (fdK K 281).doc (fdK K 281).pyModule (fdK K 281).annotations (fdK K 281).code (fdK K 281).closureTuple) ⟨xs, []⟩ = pure ((v_pawn_attackers.take 3).zip xs) := bindn3 (df_at CK (k := 30) rfl).2.2.1 bo_18
theorem nd_step_attackers : v_step_attackers.Nodup := by decide +kernel
theorem bind_step_attackers {K : Frag} (CK : Chk K) : ∀ xs : List Value, xs.length = 3 → bindArgs (fnOf (fdK K 288).name (fdK K 288).qualname (fdK K 288).params (stmtsOf (fdK K 288)) (fdK K 288).scope (fdK K 288).defaults (fdK K 288).kwdefaults (fdK K 288).doc (fdK K 288).pyModule (fdK K 288).annotations (fdK K 288).code (fdK K 288).closureTuple) ⟨xs, []⟩ = pure ((v_step_attackers.take 3).zip xs) := bindn3 (df_at CK (k := 31) rfl).2.2.1 bo_18
theorem nd_line_attackers : v_line_attackers.Nodup := by decide +kernel
theorem bo_19 : Bo3 (Str.ofString "pos") (Str.ofString "square") (Str.ofString "occupied") := fun _ _ _ _ _ _ _ _ _ _ _ _ _ _ _ _ _ _ => by kernel_rfl
theorem bind_line_attackers {K : Frag} (CK : Chk K) : ∀ xs : List Value, xs.length = 3 → bindArgs (fnOf (fdK K 295).name (fdK K 295).qualname (fdK K 295).params (stmtsOf (fdK K 295)) (fdK K 295).scope (fdK K 295).defaults (fdK K 295).kwdefaults (fdK K 295).doc (fdK K 295).pyModule (fdK K 295).annotations (fdK K 295).code (fdK K 295).closureTuple) ⟨xs, []⟩ = pure ((v_line_attackers.take 3).zip xs) := bindn3 (df_at CK (k := 32) rfl).2.2.1 bo_19
theorem nd_attackers_to : v_attackers_to.Nodup := by decide +kernel
theorem bind_attackers_to {K : Frag} (CK : Chk K) : ∀ xs : List Value, xs.length = 3 → bindArgs (fnOf (fdK K 302).name (fdK K 302).qualname (fdK K 302).params (stmtsOf (fdK K 302)) (fdK K 302).scope (fdK K 302).defaults (fdK K 302).kwdefaults (fdK K 302).doc (fdK K 302).pyModule (fdK K 302).annotations (fdK K 302).code (fdK K 302).closureTuple) ⟨xs, []⟩ = pure ((v_attackers_to.take 3).zip xs) := bindn3 (df_at CK (k := 33) rfl).2.2.1 bo_19
theorem nd_is_attacked : v_is_attacked.Nodup := by decide +kernel
theorem bo_20 : Bo4 (Str.ofString "pos") (Str.ofString "square") (Str.ofString "side") (Str.ofString "occupied") := fun _ _ _ _ _ _ _ _ _ _ _ _ _ _ _ _ _ _ _ _ _ => by kernel_rfl
theorem bind_is_attacked {K : Frag} (CK : Chk K) : ∀ xs : List Value, xs.length = 4 → bindArgs (fnOf (fdK K 309).name (fdK K 309).qualname (fdK K 309).params (stmtsOf (fdK K 309)) (fdK K 309).scope (fdK K 309).defaults (fdK K 309).kwdefaults (fdK K 309).doc (fdK K 309).pyModule (fdK K 309).annotations (fdK K 309).code (fdK K 309).closureTuple) ⟨xs, []⟩ = pure ((v_is_attacked.take 4).zip xs) := bindn4 (df_at CK (k := 34) rfl).2.2.1 bo_20
theorem nd_checkers_of : v_checkers_of.Nodup := by decide +kernel
theorem bind_checkers_of {K : Frag} (CK : Chk K) : ∀ xs : List Value, xs.length = 2 → bindArgs (fnOf (fdK K 316).name (fdK K 316).qualname (fdK K 316).params (stmtsOf (fdK K 316)) (fdK K 316).scope (fdK K 316).defaults (fdK K 316).kwdefaults (fdK K 316).doc (fdK K 316).pyModule (fdK K 316).annotations (fdK K 316).code (fdK K 316).closureTuple) ⟨xs, []⟩ = pure ((v_checkers_of.take 2).zip xs) := bindn2 (df_at CK (k := 35) rfl).2.2.1 bo_17
theorem nd_checkers : v_checkers.Nodup := by decide +kernel
theorem bind_checkers {K : Frag} (CK : Chk K) : ∀ xs : List Value, xs.length = 1 → bindArgs (fnOf (fdK K 323).name (fdK K 323).qualname (fdK K 323).params (stmtsOf (fdK K 323)) (fdK K 323).scope (fdK K 323).defaults (fdK K 323).kwdefaults (fdK K 323).doc (fdK K 323).pyModule (fdK K 323).annotations (fdK K 323).code (fdK K 323).closureTuple) ⟨xs, []⟩ = pure ((v_checkers.take 1).zip xs) := bindn1 (df_at CK (k := 36) rfl).2.2.1 bo_16
theorem nd_in_check_of : v_in_check_of.Nodup := by decide +kernel
theorem bind_in_check_of {K : Frag} (CK : Chk K) : ∀ xs : List Value, xs.length = 2 → bindArgs (fnOf (fdK K 330).name (fdK K 330).qualname (fdK K 330).params (stmtsOf (fdK K 330)) (fdK K 330).scope (fdK K 330).defaults (fdK K 330).kwdefaults (fdK K 330).doc (fdK K 330).pyModule (fdK K 330).annotations (fdK K 330).code (fdK K 330).closureTuple) ⟨xs, []⟩ = pure ((v_in_check_of.take 2).zip xs) := bindn2 (df_at CK (k := 37) rfl).2.2.1 bo_17
theorem nd_in_check : v_in_check.Nodup := by decide +kernel
theorem bind_in_check {K : Frag} (CK : Chk K) : ∀ xs : List Value, xs.length = 1 → bindArgs (fnOf (fdK K 337).name (fdK K 337).qualname (fdK K 337).params (stmtsOf (fdK K 337)) (fdK K 337).scope (fdK K 337).defaults (fdK K 337).kwdefaults (fdK K 337).doc (fdK K 337).pyModule (fdK K 337).annotations (fdK K 337).code (fdK K 337).closureTuple) ⟨xs, []⟩ = pure ((v_in_check.take 1).zip xs) := bindn1 (df_at CK (k := 38) rfl).2.2.1 bo_16
theorem nd_covered_by : v_covered_by.Nodup := by decide +kernel
theorem bo_21 : Bo3 (Str.ofString "pos") (Str.ofString "side") (Str.ofString "occupied") := fun _ _ _ _ _ _ _ _ _ _ _ _ _ _ _ _ _ _ => by kernel_rfl
theorem bind_covered_by {K : Frag} (CK : Chk K) : ∀ xs : List Value, xs.length = 3 → bindArgs (fnOf (fdK K 344).name (fdK K 344).qualname (fdK K 344).params (stmtsOf (fdK K 344)) (fdK K 344).scope (fdK K 344).defaults (fdK K 344).kwdefaults (fdK K 344).doc (fdK K 344).pyModule (fdK K 344).annotations (fdK K 344).code (fdK K 344).closureTuple) ⟨xs, []⟩ = pure ((v_covered_by.take 3).zip xs) := bindn3 (df_at CK (k := 39) rfl).2.2.1 bo_21
theorem nd_attacked_by : v_attacked_by.Nodup := by decide +kernel
theorem bind_attacked_by {K : Frag} (CK : Chk K) : ∀ xs : List Value, xs.length = 2 → bindArgs (fnOf (fdK K 351).name (fdK K 351).qualname (fdK K 351).params (stmtsOf (fdK K 351)) (fdK K 351).scope (fdK K 351).defaults (fdK K 351).kwdefaults (fdK K 351).doc (fdK K 351).pyModule (fdK K 351).annotations (fdK K 351).code (fdK K 351).closureTuple) ⟨xs, []⟩ = pure ((v_attacked_by.take 2).zip xs) := bindn2 (df_at CK (k := 40) rfl).2.2.1 bo_17
theorem nd_forbidden_to_king : v_forbidden_to_king.Nodup := by decide +kernel
theorem bind_forbidden_to_king {K : Frag} (CK : Chk K) : ∀ xs : List Value, xs.length = 2 → bindArgs (fnOf (fdK K 358).name (fdK K 358).qualname (fdK K 358).params (stmtsOf (fdK K 358)) (fdK K 358).scope (fdK K 358).defaults (fdK K 358).kwdefaults (fdK K 358).doc (fdK K 358).pyModule (fdK K 358).annotations (fdK K 358).code (fdK K 358).closureTuple) ⟨xs, []⟩ = pure ((v_forbidden_to_king.take 2).zip xs) := bindn2 (df_at CK (k := 41) rfl).2.2.1 bo_17
theorem nd_king_flights : v_king_flights.Nodup := by decide +kernel
theorem bind_king_flights {K : Frag} (CK : Chk K) : ∀ xs : List Value, xs.length = 1 → bindArgs (fnOf (fdK K 365).name (fdK K 365).qualname (fdK K 365).params (stmtsOf (fdK K 365)) (fdK K 365).scope (fdK K 365).defaults (fdK K 365).kwdefaults (fdK K 365).doc (fdK K 365).pyModule (fdK K 365).annotations (fdK K 365).code (fdK K 365).closureTuple) ⟨xs, []⟩ = pure ((v_king_flights.take 1).zip xs) := bindn1 (df_at CK (k := 42) rfl).2.2.1 bo_16
theorem nd_Zobrist : v_Zobrist.Nodup := by decide +kernel
theorem bo_22 : Bo5 (Str.ofString "self") (Str.ofString "pieces") (Str.ofString "ep") (Str.ofString "rights") (Str.ofString "side") := fun _ _ _ _ _ _ _ _ _ _ _ _ _ _ _ _ _ _ _ _ _ _ _ _ => by kernel_rfl
theorem bind_Zobrist {K : Frag} (CK : Chk K) : ∀ xs : List Value, xs.length = 5 → bindArgs (fnOf (fdK K 379).name (fdK K 379).qualname (fdK K 379).params (stmtsOf (fdK K 379)) (fdK K 379).scope (fdK K 379).defaults (fdK K 379).kwdefaults (fdK K 379).doc (fdK K 379).pyModule (fdK K 379).annotations (fdK K 379).code (fdK K 379).closureTuple) ⟨xs, []⟩ = pure ((v_Zobrist.take 5).zip xs) := bindn5 (df_at CK (k := 43) rfl).2.2.1 bo_22
theorem nd_law_tally : v_law_tally.Nodup := by decide +kernel
theorem bo_23 : Bo2 (Str.ofString "slate") (Str.ofString "many") := fun _ _ _ _ _ _ _ _ _ _ _ _ _ _ _ => by kernel_rfl
theorem bind_law_tally {K : Frag} (CK : Chk K) : ∀ xs : List Value, xs.length = 2 → bindArgs (fnOf (fdK K 393).name (fdK K 393).qualname (fdK K 393).params (stmtsOf (fdK K 393)) (fdK K 393).scope (fdK K 393).defaults (fdK K 393).kwdefaults (fdK K 393).doc (fdK K 393).pyModule (fdK K 393).annotations (fdK K 393).code (fdK K 393).closureTuple) ⟨xs, []⟩ = pure ((v_law_tally.take 2).zip xs) := bindn2 (df_at CK (k := 44) rfl).2.2.1 bo_23
theorem nd_law_board : v_law_board.Nodup := by decide +kernel
theorem bo_24 : Bo1 (Str.ofString "slate") := fun _ _ _ _ _ _ _ _ _ _ _ _ => by kernel_rfl
theorem bind_law_board {K : Frag} (CK : Chk K) : ∀ xs : List Value, xs.length = 1 → bindArgs (fnOf (fdK K 400).name (fdK K 400).qualname (fdK K 400).params (stmtsOf (fdK K 400)) (fdK K 400).scope (fdK K 400).defaults (fdK K 400).kwdefaults (fdK K 400).doc (fdK K 400).pyModule (fdK K 400).annotations (fdK K 400).code (fdK K 400).closureTuple) ⟨xs, []⟩ = pure ((v_law_board.take 1).zip xs) := bindn1 (df_at CK (k := 45) rfl).2.2.1 bo_24
theorem nd_law_is_safe : v_law_is_safe.Nodup := by decide +kernel
theorem bo_25 : Bo3 (Str.ofString "pos") (Str.ofString "king") (Str.ofString "square") := fun _ _ _ _ _ _ _ _ _ _ _ _ _ _ _ _ _ _ => by kernel_rfl
theorem bind_law_is_safe {K : Frag} (CK : Chk K) : ∀ xs : List Value, xs.length = 3 → bindArgs (fnOf (fdK K 407).name (fdK K 407).qualname (fdK K 407).params (stmtsOf (fdK K 407)) (fdK K 407).scope (fdK K 407).defaults (fdK K 407).kwdefaults (fdK K 407).doc (fdK K 407).pyModule (fdK K 407).annotations (fdK K 407).code (fdK K 407).closureTuple) ⟨xs, []⟩ = pure ((v_law_is_safe.take 3).zip xs) := bindn3 (df_at CK (k := 46) rfl).2.2.1 bo_25
end Mine

namespace Mine
noncomputable def fragOf (s : SharedT) : Frag := (List.range s.n).filterMap fun a => ((s.tree.get a).bind alive).map fun o => (a, o)
theorem lookup_fm {f : Nat → Option Obj} {a : Nat} {o : Obj} : ∀ {l : List Nat}, (l.filterMap fun a => (f a).map fun o => (a, o)).lookup a = some o → a ∈ l ∧ f a = some o
  | [], h => by cases h
  | b :: l, h => by
    rw [List.filterMap_cons] at h
    cases e : f b with
    | none =>
      rw [e] at h
      have := lookup_fm (l := l) h
      exact ⟨.tail _ this.1, this.2⟩
    | some x =>
      rw [e] at h
      simp only [Option.map_some, List.lookup_cons] at h
      cases q : (a == b) with
      | true =>
        rw [q] at h
        have := eq_of_beq q
        subst this
        exact ⟨.head _, e.trans h⟩
      | false =>
        rw [q] at h
        have := lookup_fm (l := l) h
        exact ⟨.tail _ this.1, this.2⟩
theorem frag_in (s : SharedT) : (fragOf s).In s.abs.heap := fun a o h => by
  obtain ⟨h1, h2⟩ := lookup_fm h
  obtain ⟨x, e1, e2⟩ := Option.bind_eq_some_iff.mp h2
  show (absHeap s.tree s.n s.life).get? a = some o
  rw [abs_get (List.mem_range.mp h1) e1, e2]
theorem run_all (w : World) (os : OsState) : (theRun w os).map (fun s => (okTop w.params s.abs, PySem.W.Fast.tw4187177175401517315 qV looseL (importedModules pw.main.body) xtV true s.abs, chk1 (fragOf s), chk2 (fragOf s), chk3 (fragOf s))) = some (true, openGood qV looseL, true, true, defsL.map fun d => some d.b) := by kernel_rfl
noncomputable def Says (h : Heap) : Prop := ∃ K : Frag, K.In h ∧ Chk K
theorem Says.keeps {h h' : Heap} (x : Says h) (k : ∀ b o, h.get? b = some o → h'.get? b = some o) : Says h' := let ⟨K, a, b⟩ := x; ⟨K, a.keeps k, b⟩
theorem topFrom_of {p : Program} {w : World} {N n : Nat} {an : Option Value} {s₀ s₁ : Shared} (h1 : s₀.heap.isNs mainGlobals = true) (h2 : s₀.gens = #[]) (h3 : s₀.heap.objs.size = n) (h4 : s₀.heap.nsMap mainGlobals "__annotations__" = an)
    (t : topRun treeTable p w n an N s₀ (topStub p) = some s₁) (k : (staticsOk (importedModules p.main.body) s₀.heap s₁.heap && namesBound p s₁.heap && gensDone s₁ && laidKept s₀.heap s₁.heap) = true) : topFrom treeTable p w N s₀ = some s₁ := by
  subst h3 h4
  unfold topFrom
  rw [h1, h2, t]
  dsimp only [Option.bind_some]
  rw [k]
  rfl
theorem left_of {p q : Program} {loose : List Str} {Xt : Shared → Bool} {YP : Heap → Prop} {w : World} {N : Nat} {s₁ : Shared} {gs : Array GenState} {h : Heap} {d : Drawn} {tk : Nat} {os : OsState} (e : fencedOpening treeTable p w N = some ⟨h, gs, d, tk, os⟩)
    (t : topFrom treeTable p w N ⟨h, gs, d, tk, os⟩ = some s₁) (l : openSeen q loose (importedModules p.main.body) Xt true s₁ = openGood q loose) (y : YP s₁.heap) :
    (openEnds treeTable p w N).map (fun s => (openSeen q loose (importedModules p.main.body) Xt true s, YP s.heap)) = some (openGood q loose, True) := by
  unfold openEnds
  rw [e, Option.bind_some, t, Option.map_some, l, eq_true y]
theorem left : LeftO pw qV looseL xtV (fun s => Says s.heap) (fun _ => True) 6000 := fun w => by
  have hb := boot_open (p := pw) (N := 6000) (by kernel_rfl) rfl (fun s => by kernel_rfl) w
  obtain ⟨⟨h, gs, d, k, os⟩, e, e'⟩ := Option.map_eq_some_iff.mp hb
  simp only [Prod.mk.injEq] at e'
  obtain ⟨rfl, rfl, rfl, rfl⟩ := e'
  obtain ⟨s', r, l⟩ := Option.map_eq_some_iff.mp (run_all w os)
  simp only [Prod.mk.injEq] at l
  obtain ⟨l1, l2, c1, c2, c3⟩ := l
  rw [← PySem.W.Fast.te4187177175401517315] at l2
  have t := topQ_of r
  have a0 : (S0 w os).abs = ⟨boot_heap w.params, #[], boot_drawn, boot_toks, os⟩ := by
    unfold SharedT.abs S0; dsimp only; rw [boot_abs]
  rw [a0] at t
  have z := boot_looks w.params
  simp only [Prod.mk.injEq] at z
  obtain ⟨z1, z2, z3⟩ := z
  unfold okTop at l1
  have tf : topFrom treeTable pw w 6000 ⟨boot_heap w.params, #[], boot_drawn, boot_toks, os⟩ = some s'.abs := topFrom_of (s₀ := ⟨boot_heap w.params, #[], boot_drawn, boot_toks, os⟩) z1 rfl z2 z3 t l1
  have y : Says s'.abs.heap := ⟨fragOf s', frag_in s', c1, c2, c3⟩
  clear t a0 z1 z2 z3 l1 c1 c2 c3 r hb
  exact left_of (YP := Says) e tf l2 y
/-- the law's text stands as it should: each look by itself -/
theorem row_said : (OpenLaw.row PySem.Challenge.rw_sa0132_01).wellSaid = true := by
  unfold OpenRow.wellSaid OpenRow.partSaid looksOpen
  repeat' with_reducible refine look_both ?_ ?_
  all_goals decide +kernel
theorem law_said : OpenLaw.wellSaid PySem.Challenge.rw_sa0132_01 = true := by
  unfold OpenLaw.wellSaid
  iterate 18 with_reducible refine look_both ?_ ?_
  exact row_said
  all_goals decide +kernel
end Mine

namespace Mine
/-! bits of naturals -/
theorem band_nat (a b : Nat) : Builtin.bitAnd (a : Int) (b : Int) = ((a &&& b : Nat) : Int) := by simp [Builtin.bitAnd]
theorem bor_nat (a b : Nat) : Builtin.bitOr (a : Int) (b : Int) = ((a ||| b : Nat) : Int) := by
  have ha : ¬ (0 ≤ -(a : Int) - 1) := by omega
  have hb : ¬ (0 ≤ -(b : Int) - 1) := by omega
  simp only [Builtin.bitOr, Builtin.bitAnd, Builtin.bitNot, ha, hb, decide_false]
  have e1 : (-(-(a : Int) - 1) - 1).toNat = a := by omega
  have e2 : (-(-(b : Int) - 1) - 1).toNat = b := by omega
  rw [e1, e2]; omega
theorem or_add_and (a b : Nat) : (a ||| b) + (a &&& b) = a + b := PyProof.Rows.nat_or_add_and a b
theorem or_disj {a b : Nat} (h : a &&& b = 0) : a ||| b = a + b := by
  have := or_add_and a b
  omega
theorem xor_add_and (a b : Nat) : (a ^^^ b) + (a &&& b) = a ||| b := by
  have h : ((a ^^^ b) &&& (a &&& b)) = 0 := by
    apply Nat.eq_of_testBit_eq; intro i
    simp only [Nat.testBit_and, Nat.testBit_xor, Nat.zero_testBit]
    cases a.testBit i <;> cases b.testBit i <;> rfl
  have h2 : ((a ^^^ b) ||| (a &&& b)) = a ||| b := by
    apply Nat.eq_of_testBit_eq; intro i
    simp only [Nat.testBit_and, Nat.testBit_xor, Nat.testBit_or]
    cases a.testBit i <;> cases b.testBit i <;> rfl
  rw [← h2]
  exact (or_disj h).symm
theorem bxor_nat (a b : Nat) : Builtin.bitXor (a : Int) (b : Int) = ((a ^^^ b : Nat) : Int) := by
  unfold Builtin.bitXor
  rw [bor_nat, band_nat, ← xor_add_and]
  omega
/-- a and not b -/
noncomputable def andn (a b : Nat) : Nat := a - (a &&& b)
theorem bandn_nat (a b : Nat) : Builtin.bitAnd (a : Int) (Builtin.bitNot (b : Int)) = ((andn a b : Nat) : Int) := by
  have hb : ¬ (0 ≤ Builtin.bitNot (b : Int)) := by unfold Builtin.bitNot; omega
  have e : (Builtin.bitNot (Builtin.bitNot (b : Int))).toNat = b := by unfold Builtin.bitNot; omega
  have l : a &&& b ≤ a := Nat.and_le_left
  unfold andn
  simp only [Builtin.bitAnd, hb, decide_false, Int.natCast_nonneg, decide_true, e, Int.toNat_natCast]
  omega
theorem andn_eq (a b : Nat) : andn a b = a ^^^ (a &&& b) := by
  have h : ((a ^^^ (a &&& b)) &&& (a &&& b)) = 0 := by
    apply Nat.eq_of_testBit_eq; intro i
    simp only [Nat.testBit_and, Nat.testBit_xor, Nat.zero_testBit]
    cases a.testBit i <;> cases b.testBit i <;> rfl
  have h2 : ((a ^^^ (a &&& b)) ||| (a &&& b)) = a := by
    apply Nat.eq_of_testBit_eq; intro i
    simp only [Nat.testBit_and, Nat.testBit_xor, Nat.testBit_or]
    cases a.testBit i <;> cases b.testBit i <;> rfl
  have h3 := or_disj h
  unfold andn; omega
theorem testBit_andn (a b i : Nat) : (andn a b).testBit i = (a.testBit i && !b.testBit i) := by
  rw [andn_eq]
  simp only [Nat.testBit_and, Nat.testBit_xor]
  cases a.testBit i <;> cases b.testBit i <;> rfl
theorem shr_nat (a n : Nat) : Int.fdiv (a : Int) (2 ^ (n : Int).toNat) = ((a >>> n : Nat) : Int) := by
  rw [Int.toNat_natCast, Nat.shiftRight_eq_div_pow]
  rw [Int.fdiv_eq_ediv_of_nonneg _ (by exact Int.le_of_lt (Int.pow_pos (by decide)))]
  norm_cast
theorem shl_nat (a n : Nat) : (a : Int) * 2 ^ (n : Int).toNat = ((a <<< n : Nat) : Int) := by
  rw [Int.toNat_natCast, Nat.shiftLeft_eq]; norm_cast
theorem one_shl (n : Nat) : (1 : Int) * 2 ^ (n : Int).toNat = ((1 <<< n : Nat) : Int) := shl_nat 1 n
theorem bit_test (a n : Nat) : ((a >>> n) &&& 1 = 1) ↔ a.testBit n = true := by
  rw [Nat.testBit_eq_decide_div_mod_eq, Nat.shiftRight_eq_div_pow, Nat.and_one_is_mod]
  simp
end Mine

namespace Mine
/-! the plain law: a board of f files and r ranks, squares y * f + x -/
noncomputable def dF (d : Nat) : Int := ([0, 1, 0, -1, 1, 1, -1, -1] : List Int).getD d 0
noncomputable def dR (d : Nat) : Int := ([1, 0, -1, 0, 1, -1, -1, 1] : List Int).getD d 0
noncomputable def sqAt (f r : Nat) (x y : Int) : Option Nat := if 0 ≤ x ∧ x < f ∧ 0 ≤ y ∧ y < r then some (y * f + x).toNat else none
noncomputable def rayGo (f r d : Nat) : Nat → Int → Int → List Nat
  | 0, _, _ => []
  | n + 1, x, y => match sqAt f r (x + dF d) (y + dR d) with
    | some s => s :: rayGo f r d n (x + dF d) (y + dR d)
    | none => []
noncomputable def rayL (f r d s : Nat) : List Nat := rayGo f r d 4 ((s % f : Nat) : Int) ((s / f : Nat) : Int)
noncomputable def mk : List Nat → Nat
  | [] => 0
  | s :: l => mk l ||| 1 <<< s
noncomputable def tab (f r : Nat) (g : Nat → Nat) : List Nat := (List.range (f * r)).map g
noncomputable def rayT (f r d : Nat) : List Nat := tab f r fun s => mk (rayL f r d s)
noncomputable def stepsL (f r s : Nat) : List Nat := (List.range 8).flatMap fun d => (rayL f r d s).take 1
noncomputable def kingT (f r : Nat) : List Nat := tab f r fun s => mk (stepsL f r s)
noncomputable def jumpsL (f r s : Nat) : List Nat := ([(1, 2), (2, 1), (2, -1), (1, -2), (-1, -2), (-2, -1), (-2, 1), (-1, 2)] : List (Int × Int)).filterMap fun p => sqAt f r (((s % f : Nat) : Int) + p.1) (((s / f : Nat) : Int) + p.2)
noncomputable def knightT (f r : Nat) : List Nat := tab f r fun s => mk (jumpsL f r s)
noncomputable def pawnL (f r side s : Nat) : List Nat := (if side = 0 then [4, 7] else [5, 6]).flatMap fun d => (rayL f r d s).take 1
noncomputable def pawnT (f r side : Nat) : List Nat := tab f r fun s => mk (pawnL f r side s)
/-- the squares that a slider reaches along a ray -/
noncomputable def attL : List Nat → Nat → List Nat
  | [], _ => []
  | a :: l, occ => a :: if occ.testBit a then [] else attL l occ
noncomputable def rayAtt (f r d s occ : Nat) : Nat := mk (attL (rayL f r d s) occ)
noncomputable def grow (d : Nat) : Bool := decide (dR d > 0) || d == 1
noncomputable def smear (b : Nat) : Nat :=
  let b := b >>> 1
  let b := b ||| b >>> 1
  let b := b ||| b >>> 2
  let b := b ||| b >>> 4
  let b := b ||| b >>> 8
  let b := b ||| b >>> 16
  b ||| b >>> 32
/-- what the program reckons -/
noncomputable def fAtt (ray : Nat) (g : Bool) (occ : Nat) : Nat :=
  let stop := ray &&& occ
  if stop = 0 then ray else if g then ray &&& (stop ^^^ (stop - 1)) else andn ray (smear stop)

noncomputable def Sz (f r : Nat) : Prop := (f = 3 ∨ f = 4) ∧ (r = 3 ∨ r = 4)
theorem Sz.cases {f r : Nat} (h : Sz f r) {P : Nat → Nat → Prop} (h1 : P 3 3) (h2 : P 3 4) (h3 : P 4 3) (h4 : P 4 4) : P f r := by
  obtain ⟨rfl | rfl, rfl | rfl⟩ := h <;> assumption
theorem Sz.le {f r : Nat} (h : Sz f r) : 9 ≤ f * r ∧ f * r ≤ 16 := h.cases (P := fun f r => 9 ≤ f * r ∧ f * r ≤ 16) (by decide) (by decide) (by decide) (by decide)

/-- a check over all squares of the four boards -/
noncomputable def allSq (P : Nat → Nat → Nat → Bool) : Bool := [(3, 3), (3, 4), (4, 3), (4, 4)].all fun p => (List.range (p.1 * p.2)).all fun s => P p.1 p.2 s
theorem allSq_ok {P : Nat → Nat → Nat → Bool} (h : allSq P = true) {f r s : Nat} (hz : Sz f r) (hs : s < f * r) : P f r s = true := by
  unfold allSq at h
  simp only [List.all_cons, List.all_nil, Bool.and_true, Bool.and_eq_true] at h
  obtain ⟨h1, h2, h3, h4⟩ := h
  have := hz.cases (P := fun f r => (List.range (f * r)).all (fun s => P f r s) = true) h1 h2 h3 h4
  exact List.all_eq_true.mp this s (List.mem_range.mpr hs)

noncomputable def subs : List Nat → List Nat
  | [] => [0]
  | a :: l => (subs l).flatMap fun m => [m, m ||| 1 <<< a]
theorem testBit_mk {l : List Nat} {i : Nat} : (mk l).testBit i = l.contains i := by
  induction l with
  | nil => simp [mk]
  | cons a l ih =>
    rw [mk, Nat.testBit_or, ih, List.contains_cons, Bool.or_comm]
    congr 1
    rw [Nat.one_shiftLeft, Nat.testBit_two_pow]
    by_cases h : a = i
    · subst h; simp
    · have : ¬ i = a := fun e => h e.symm
      simp [h, this]
theorem and_mk_subs (occ : Nat) : ∀ l : List Nat, occ &&& mk l ∈ subs l
  | [] => by simp [mk, subs]
  | a :: l => by
    have ih := and_mk_subs occ l
    rw [mk, subs, List.mem_flatMap]
    refine ⟨_, ih, ?_⟩
    by_cases h : occ.testBit a
    · have : occ &&& (mk l ||| 1 <<< a) = (occ &&& mk l) ||| 1 <<< a := by
        apply Nat.eq_of_testBit_eq; intro i
        simp only [Nat.testBit_and, Nat.testBit_or, Nat.one_shiftLeft, Nat.testBit_two_pow]
        by_cases e : a = i
        · subst e; simp [h]
        · simp [e]
      rw [this]; simp
    · have : occ &&& (mk l ||| 1 <<< a) = occ &&& mk l := by
        apply Nat.eq_of_testBit_eq; intro i
        simp only [Nat.testBit_and, Nat.testBit_or, Nat.one_shiftLeft, Nat.testBit_two_pow]
        by_cases e : a = i
        · subst e; simp [h]
        · simp [e]
      rw [this]; simp
theorem attL_and {occ M : Nat} : ∀ {l : List Nat}, (∀ a ∈ l, M.testBit a = true) → attL l (occ &&& M) = attL l occ
  | [], _ => rfl
  | a :: l, h => by
    rw [attL, attL, Nat.testBit_and, h a (.head _), Bool.and_true, attL_and fun b hb => h b (.tail _ hb)]
theorem fAtt_and (ray : Nat) (g : Bool) (occ : Nat) : fAtt ray g (occ &&& ray) = fAtt ray g occ := by
  unfold fAtt
  have : ray &&& (occ &&& ray) = ray &&& occ := by
    apply Nat.eq_of_testBit_eq; intro i
    simp only [Nat.testBit_and]
    cases ray.testBit i <;> cases occ.testBit i <;> rfl
  rw [this]
theorem fAtt_chk : allSq (fun f r s => (List.range 8).all fun d => (subs (rayL f r d s)).all fun m => fAtt (mk (rayL f r d s)) (grow d) m == mk (attL (rayL f r d s) m)) = true := by kernel_rfl
theorem fAtt_ok {f r d s : Nat} (hz : Sz f r) (hs : s < f * r) (hd : d < 8) (occ : Nat) : fAtt (mk (rayL f r d s)) (grow d) occ = rayAtt f r d s occ := by
  have h := allSq_ok fAtt_chk hz hs
  have h2 := List.all_eq_true.mp (List.all_eq_true.mp h d (List.mem_range.mpr hd)) _ (and_mk_subs occ (rayL f r d s))
  have h3 := eq_of_beq h2
  rw [fAtt_and, attL_and (fun a ha => by rw [testBit_mk]; simpa using ha)] at h3
  exact h3
end Mine

namespace Mine
/-- how deep a def calls -/
noncomputable def rk : Nat → Nat
  | 0 => 1 | 1 => 1 | 2 => 1 | 3 => 1 | 4 => 2 | 5 => 1 | 6 => 2 | 7 => 1 | 8 => 1 | 9 => 1 | 10 => 2 | 11 => 1 | 12 => 1 | 13 => 1 | 14 => 3
  | 15 => 2 | 16 => 3 | 17 => 3 | 18 => 4 | 19 => 5 | 20 => 6 | 21 => 2 | 22 => 2 | 23 => 2 | 24 => 2 | 25 => 1 | 26 => 3 | 27 => 3 | 28 => 1 | 29 => 1 | 30 => 1
  | 31 => 2 | 32 => 4 | 33 => 5 | 34 => 4 | 35 => 6 | 36 => 7 | 37 => 5 | 38 => 6 | 39 => 7 | 40 => 8 | 41 => 8 | 42 => 9 | 43 => 2 | 44 => 1 | 45 => 4 | 46 => 7
  | _ => 100
/-- the defs that are run: (parameters, names, body, a class's __init__) -/
noncomputable def bodyOf : Nat → Option (Nat × Nat × List S × Bool)
  | 3 => some (1, 3, b_highest, false)
  | 4 => some (1, 1, b_lowest, false)
  | 6 => some (5, 5, b_Geometry, true)
  | 7 => some (1, 1, b_is_growing, false)
  | 8 => some (1, 5, b_add_masks, false)
  | 9 => some (2, 3, b_inner_squares, false)
  | 10 => some (1, 8, b_add_rays, false)
  | 11 => some (1, 2, b_add_pawns, false)
  | 12 => some (1, 11, b_add_knights, false)
  | 13 => some (1, 7, b_add_castles, false)
  | 14 => some (4, 5, b_make_geometry, false)
  | 21 => some (3, 3, b_Position, true)
  | 43 => some (5, 5, b_Zobrist, true)
  | _ => none
noncomputable def below (f : Nat) (C : RC) : RC := fun g a H => if Nat.blt (rk g) (rk f) then C g a H else none
noncomputable def Cr : Nat → RC
  | 0 => fun _ _ _ => none
  | n + 1 => fun f args H => (bodyOf f).bind fun p =>
    if p.2.2.2 then (if args.length + 1 = p.1 then (rSs (below f (Cr n)) p.2.2.1 (.ref (H.length + 1) :: args ++ List.replicate (p.2.1 - p.1) .undef) (H ++ [.dict [], .inst H.length])).bind fun x => (match retOf x.1 with | .none => some (.ref (H.length + 1), x.2.2) | _ => none) else none)
    else (if args.length = p.1 then (rSs (below f (Cr n)) p.2.2.1 (args ++ List.replicate (p.2.1 - p.1) .undef) H).map fun x => (retOf x.1, x.2.2) else none)
/-- what a run gives -/
noncomputable def Run (f : Nat) (args : List AV) (H : Hp) (Q : AV → Hp → Prop) : Prop := ∃ m v H', Cr m f args H = some (v, H') ∧ Q v H'

noncomputable def intsA (l : List Nat) : List AV := l.map fun (x : Nat) => .int (x : Int)
noncomputable def zeros (n : Nat) : List AV := List.replicate n (.int 0)
noncomputable def rayAd : List Nat := [17, 21, 25, 28, 31, 35, 38, 41]
noncomputable def geoD (f r : Nat) : List (Nat × AV) := [(0, .int f), (1, .int r), (2, .int ((f * r : Nat) : Int)), (3, .int ((2 ^ (f * r) - 1 : Nat) : Int)), (4, .bool false), (5, .bool false), (6, .ref 4), (7, .ref 5), (8, .ref 6), (9, .ref 15), (10, .ref 8), (11, .ref 11), (12, .ref 12), (13, .ref 45)]
noncomputable def posD (pd bo ki si hs side : Nat) : List (Nat × AV) := [(14, .ref 3), (15, .ref 55), (16, .ref bo), (17, .ref ki), (18, .ref si), (19, .int side), (20, .int 0), (21, .int (-1)), (22, .int 0), (3, .int 1), (23, .int 0), (24, .ref hs)]
structure GeoAt (H : Hp) (f r : Nat) : Prop where
  sz : Sz f r
  i : H[3]? = some (.inst 2)
  d : H[2]? = some (.dict (geoD f r))
  rays : H[6]? = some (.list (rayAd.map .ref))
  ray : ∀ d, d < 8 → H[rayAd.getD d 0]? = some (.list (intsA (rayT f r d)))
  king : H[15]? = some (.list (intsA (kingT f r)))
  knight : H[8]? = some (.list (intsA (knightT f r)))
  pawn : H[11]? = some (.list [.ref 9, .ref 10])
  p0 : H[9]? = some (.list (intsA (pawnT f r 0)))
  p1 : H[10]? = some (.list (intsA (pawnT f r 1)))
noncomputable def men15 : List AV := List.replicate 15 (.ref 47)
structure ZobAt (H : Hp) (f r : Nat) : Prop where
  i : H[55]? = some (.inst 54)
  d : H[54]? = some (.dict [(25, .ref 49), (21, .ref 51), (20, .ref 53), (19, .int 0)])
  pieces : H[49]? = some (.list men15)
  row : H[47]? = some (.list (zeros (f * r)))
/-- a position: the men by square, by kind, by side; the mover -/
structure Bd where
  bo : List Nat
  ki : List Nat
  s0 : Nat
  s1 : Nat
  side : Nat
noncomputable def Bd.sd (B : Bd) (i : Nat) : Nat := if i = 0 then B.s0 else B.s1
noncomputable def Bd.kd (B : Bd) (k : Nat) : Nat := B.ki.getD k 0
structure PA where
  p : Nat
  pd : Nat
  bo : Nat
  ki : Nat
  si : Nat
  hs : Nat
structure PosAt (H : Hp) (a : PA) (B : Bd) : Prop where
  i : H[a.p]? = some (.inst a.pd)
  d : H[a.pd]? = some (.dict (posD a.pd a.bo a.ki a.si a.hs B.side))
  bo : H[a.bo]? = some (.list (intsA B.bo))
  ki : H[a.ki]? = some (.list (intsA B.ki))
  si : H[a.si]? = some (.list (intsA [B.s0, B.s1]))
  hs : H[a.hs]? = some (.list [])
noncomputable def pa0 : PA := ⟨57, 56, 59, 61, 62, 63⟩

/-- the heap behind the board's making -/
noncomputable def HX (f r : Nat) (xs : List AV) (c : Int) : Hp :=
  let n := f * r
  let z : AO := .list [.int 0]
  let up : AO := .range 0 (n : Int) 1
  let dn : AO := .range ((n : Int) - 1) (-1) (-1)
  [.list xs, .list [.ref 0, .int c], .dict (geoD f r), .inst 2,
   .list (intsA ((List.range f).map fun i => mk ((List.range r).map fun j => j * f + i))), .list (intsA ((List.range r).map fun j => mk ((List.range f).map fun i => j * f + i))), .list (rayAd.map .ref), .list [], .list (intsA (knightT f r)),
   .list (intsA (pawnT f r 0)), .list (intsA (pawnT f r 1)), .list [.ref 9, .ref 10], .list [.none, .none, .none, .none], .list [], z, .list (intsA (kingT f r)),
   z, .list (intsA (rayT f r 0)), up, dn, z, .list (intsA (rayT f r 1)), up, dn, z, .list (intsA (rayT f r 2)), up, z, .list (intsA (rayT f r 3)), up, z, .list (intsA (rayT f r 4)), up, dn, z, .list (intsA (rayT f r 5)), up, z, .list (intsA (rayT f r 6)), up, z, .list (intsA (rayT f r 7)), up, dn,
   z, .list (zeros n), z, .list (zeros n), .list [.ref 47], .list (List.replicate 15 (.ref 47)), z, .list (zeros f), z, .list (zeros 16),
   .dict [(25, .ref 49), (21, .ref 51), (20, .ref 53), (19, .int 0)], .inst 54, .dict (posD 56 59 61 62 63 0), .inst 56, z, .list (zeros n), z, .list (zeros 7), .list (zeros 2), .list []]
/-- the statement of _law_board that makes the board -/
noncomputable def eBoard : E := (.call 21 [(.call 14 [(.var 1), (.var 2), (.const (.bool false)), (.const (.bool false))]), (.call 43 [(.bin .Mult (.list [(.bin .Mult (.list [(.const (.int 0))]) (.var 3))]) (.const (.int 15))), (.bin .Mult (.list [(.const (.int 0))]) (.var 1)), (.bin .Mult (.list [(.const (.int 0))]) (.const (.int 16))), (.const (.int 0))])])
theorem board_33 (sl : AV) (xs : List AV) (c : Int) (l : List AV) : rE (Cr 7) (sl :: .int 3 :: .int 3 :: .int 9 :: l) eBoard [.list xs, .list [.ref 0, .int c]] = some (.ref 57, HX 3 3 xs c) := by kernel_rfl
theorem board_34 (sl : AV) (xs : List AV) (c : Int) (l : List AV) : rE (Cr 7) (sl :: .int 3 :: .int 4 :: .int 12 :: l) eBoard [.list xs, .list [.ref 0, .int c]] = some (.ref 57, HX 3 4 xs c) := by kernel_rfl
theorem board_43 (sl : AV) (xs : List AV) (c : Int) (l : List AV) : rE (Cr 7) (sl :: .int 4 :: .int 3 :: .int 12 :: l) eBoard [.list xs, .list [.ref 0, .int c]] = some (.ref 57, HX 4 3 xs c) := by kernel_rfl
theorem board_44 (sl : AV) (xs : List AV) (c : Int) (l : List AV) : rE (Cr 7) (sl :: .int 4 :: .int 4 :: .int 16 :: l) eBoard [.list xs, .list [.ref 0, .int c]] = some (.ref 57, HX 4 4 xs c) := by kernel_rfl
theorem grow_run (d : Nat) (H : Hp) (h : d < 8) : Cr 1 7 [.int d] H = some (.bool (grow d), H) := by
  match d, h with
  | 0, _ => kernel_rfl
  | 1, _ => kernel_rfl
  | 2, _ => kernel_rfl
  | 3, _ => kernel_rfl
  | 4, _ => kernel_rfl
  | 5, _ => kernel_rfl
  | 6, _ => kernel_rfl
  | 7, _ => kernel_rfl
  | d + 8, h => exact absurd h (by omega)
theorem lowest_run (k : Nat) (H : Hp) (h : k < 16) : Cr 2 4 [.int ((1 <<< k : Nat) : Int)] H = some (.int k, H) := by
  match k, h with
  | 0, _ => kernel_rfl
  | 1, _ => kernel_rfl
  | 2, _ => kernel_rfl
  | 3, _ => kernel_rfl
  | 4, _ => kernel_rfl
  | 5, _ => kernel_rfl
  | 6, _ => kernel_rfl
  | 7, _ => kernel_rfl
  | 8, _ => kernel_rfl
  | 9, _ => kernel_rfl
  | 10, _ => kernel_rfl
  | 11, _ => kernel_rfl
  | 12, _ => kernel_rfl
  | 13, _ => kernel_rfl
  | 14, _ => kernel_rfl
  | 15, _ => kernel_rfl
  | k + 16, h => exact absurd h (by omega)
end Mine

namespace Mine
noncomputable def Ext (H H' : Hp) : Prop := ∃ t, H' = H ++ t
theorem Ext.refl {H : Hp} : Ext H H := ⟨[], by simp⟩
theorem Ext.trans {H H₁ H₂ : Hp} : Ext H H₁ → Ext H₁ H₂ → Ext H H₂ := fun ⟨a, ha⟩ ⟨b, hb⟩ => ⟨a ++ b, by rw [hb, ha, List.append_assoc]⟩
theorem Ext.app {H t : Hp} : Ext H (H ++ t) := ⟨t, rfl⟩
theorem Ext.get {H H' : Hp} (e : Ext H H') {i : Nat} {o : AO} (h : H[i]? = some o) : H'[i]? = some o := by obtain ⟨t, rfl⟩ := e; exact get_app h
theorem Ext.len {H H' : Hp} (e : Ext H H') : H.length ≤ H'.length := by obtain ⟨t, rfl⟩ := e; simp
theorem GeoAt.ext {H H' : Hp} {f r : Nat} (g : GeoAt H f r) (e : Ext H H') : GeoAt H' f r :=
  ⟨g.sz, e.get g.i, e.get g.d, e.get g.rays, fun d hd => e.get (g.ray d hd), e.get g.king, e.get g.knight, e.get g.pawn, e.get g.p0, e.get g.p1⟩
theorem PosAt.ext {H H' : Hp} {a : PA} {B : Bd} (g : PosAt H a B) (e : Ext H H') : PosAt H' a B := ⟨e.get g.i, e.get g.d, e.get g.bo, e.get g.ki, e.get g.si, e.get g.hs⟩
theorem ZobAt.ext {H H' : Hp} {f r : Nat} (g : ZobAt H f r) (e : Ext H H') : ZobAt H' f r := ⟨e.get g.i, e.get g.d, e.get g.pieces, e.get g.row⟩
/-- below 56 nothing is changed, but for the slate -/
noncomputable def Low (H H' : Hp) : Prop := ∀ i, i ≠ 1 → i < 56 → H'[i]? = H[i]?
theorem rayAd_low {d : Nat} (h : d < 8) : 1 < rayAd.getD d 0 ∧ rayAd.getD d 0 < 56 := by
  match d, h with
  | 0, _ => decide
  | 1, _ => decide
  | 2, _ => decide
  | 3, _ => decide
  | 4, _ => decide
  | 5, _ => decide
  | 6, _ => decide
  | 7, _ => decide
  | d + 8, h => exact absurd h (by omega)
theorem GeoAt.low {H H' : Hp} {f r : Nat} (g : GeoAt H f r) (e : Low H H') : GeoAt H' f r :=
  ⟨g.sz, (e 3 (by decide) (by decide)).trans g.i, (e 2 (by decide) (by decide)).trans g.d, (e 6 (by decide) (by decide)).trans g.rays,
    fun d hd => (e _ (Nat.ne_of_gt (rayAd_low hd).1) (rayAd_low hd).2).trans (g.ray d hd), (e 15 (by decide) (by decide)).trans g.king, (e 8 (by decide) (by decide)).trans g.knight,
    (e 11 (by decide) (by decide)).trans g.pawn, (e 9 (by decide) (by decide)).trans g.p0, (e 10 (by decide) (by decide)).trans g.p1⟩
theorem ZobAt.low {H H' : Hp} {f r : Nat} (g : ZobAt H f r) (e : Low H H') : ZobAt H' f r :=
  ⟨(e 55 (by decide) (by decide)).trans g.i, (e 54 (by decide) (by decide)).trans g.d, (e 49 (by decide) (by decide)).trans g.pieces, (e 47 (by decide) (by decide)).trans g.row⟩

/-! what the defs reckon -/
noncomputable def rookAtt (f r s occ : Nat) : Nat := (((0 ||| rayAtt f r 0 s occ) ||| rayAtt f r 1 s occ) ||| rayAtt f r 2 s occ) ||| rayAtt f r 3 s occ
noncomputable def bishopAtt (f r s occ : Nat) : Nat := (((0 ||| rayAtt f r 4 s occ) ||| rayAtt f r 5 s occ) ||| rayAtt f r 6 s occ) ||| rayAtt f r 7 s occ
noncomputable def queenAtt (f r s occ : Nat) : Nat := rookAtt f r s occ ||| bishopAtt f r s occ
noncomputable def sliderAtt (f r k s occ : Nat) : Nat := if k = 3 then bishopAtt f r s occ else if k = 4 then rookAtt f r s occ else if k = 5 then queenAtt f r s occ else 0
noncomputable def pieceAtt (f r side k s occ : Nat) : Nat := if k = 1 then (pawnT f r side).getD s 0 else if k = 2 then (knightT f r).getD s 0 else if k = 6 then (kingT f r).getD s 0 else sliderAtt f r k s occ
noncomputable def straightB (B : Bd) : Nat := B.kd 4 ||| B.kd 5
noncomputable def slantB (B : Bd) : Nat := B.kd 3 ||| B.kd 5
noncomputable def pawnAtk (f r : Nat) (B : Bd) (s side : Nat) : Nat := ((pawnT f r (1 - side)).getD s 0 &&& B.kd 1) &&& B.sd side
noncomputable def stepAtk (f r : Nat) (B : Bd) (s side : Nat) : Nat := pawnAtk f r B s side ||| ((((knightT f r).getD s 0 &&& B.kd 2) ||| ((kingT f r).getD s 0 &&& B.kd 6)) &&& B.sd side)
noncomputable def lineAtk (f r : Nat) (B : Bd) (s occ : Nat) : Nat := (rookAtt f r s occ &&& straightB B) ||| (bishopAtt f r s occ &&& slantB B)
noncomputable def atkTo (f r : Nat) (B : Bd) (s occ : Nat) : Nat := (stepAtk f r B s 0 ||| stepAtk f r B s 1) ||| lineAtk f r B s occ
noncomputable def isAtk (f r : Nat) (B : Bd) (s side occ : Nat) : Bool := stepAtk f r B s side != 0 || ((rookAtt f r s occ &&& (straightB B &&& B.sd side)) != 0 || (bishopAtt f r s occ &&& (slantB B &&& B.sd side)) != 0)
noncomputable def Cov (f r : Nat) (B : Bd) (side occ c : Nat) : Prop := ∀ t, c.testBit t = true ↔ ∃ k s, 1 ≤ k ∧ k ≤ 6 ∧ (B.kd k &&& B.sd side).testBit s = true ∧ (pieceAtt f r side k s occ).testBit t = true
noncomputable def Bd.occ (B : Bd) : Nat := B.s0 ||| B.s1
noncomputable def sdSet (B : Bd) (i v : Nat) : Bd := if i = 0 then { B with s0 := v } else { B with s1 := v }
noncomputable def putB (B : Bd) (p s : Nat) : Bd := sdSet { B with bo := B.bo.set s p, ki := B.ki.set (p &&& 7) (B.kd (p &&& 7) ||| 1 <<< s) } (p >>> 3) (B.sd (p >>> 3) ||| 1 <<< s)
noncomputable def takeB (B : Bd) (s : Nat) : Bd := let p := B.bo.getD s 0; sdSet { B with bo := B.bo.set s 0, ki := B.ki.set (p &&& 7) (B.kd (p &&& 7) ^^^ 1 <<< s) } (p >>> 3) (B.sd (p >>> 3) ^^^ 1 <<< s)
noncomputable def shiftB (B : Bd) (a b : Nat) : Bd := let p := B.bo.getD a 0; let m := (1 <<< a) ||| (1 <<< b); sdSet { B with bo := (B.bo.set a 0).set b p, ki := B.ki.set (p &&& 7) (B.kd (p &&& 7) ^^^ m) } (p >>> 3) (B.sd (p >>> 3) ^^^ m)
/-- a man's number -/
noncomputable def POk (p : Nat) : Prop := p ≤ 14 ∧ p &&& 7 < 7
/-- sizes: all that the walk asks of a position -/
structure BdOk (f r : Nat) (B : Bd) : Prop where
  sz : Sz f r
  bl : B.bo.length = f * r
  bp : ∀ s, POk (B.bo.getD s 0)
  kl : B.ki.length = 7
  side : B.side < 2
  b0 : ∀ s, B.s0.testBit s = true → s < f * r
  b1 : ∀ s, B.s1.testBit s = true → s < f * r
/-- the addresses of a position, apart -/
structure PAok (a : PA) : Prop where
  lo : 56 ≤ a.p ∧ 56 ≤ a.pd ∧ 56 ≤ a.bo ∧ 56 ≤ a.ki ∧ 56 ≤ a.si ∧ 56 ≤ a.hs
  ne1 : a.p ≠ a.pd ∧ a.p ≠ a.bo ∧ a.p ≠ a.ki ∧ a.p ≠ a.si ∧ a.p ≠ a.hs
  ne2 : a.pd ≠ a.bo ∧ a.pd ≠ a.ki ∧ a.pd ≠ a.si ∧ a.pd ≠ a.hs
  ne3 : a.bo ≠ a.ki ∧ a.bo ≠ a.si ∧ a.bo ≠ a.hs
  ne4 : a.ki ≠ a.si ∧ a.ki ≠ a.hs ∧ a.si ≠ a.hs
/-- all but a position's own objects is as it was -/
noncomputable def But (a : PA) (H H' : Hp) : Prop := (∀ i, i ≠ a.pd → i ≠ a.bo → i ≠ a.ki → i ≠ a.si → H'[i]? = H[i]?) ∧ H'.length = H.length
theorem But.low {a : PA} {H H' : Hp} (h : But a H H') (o : PAok a) : Low H H' := fun i _ hi => h.1 i (by have := o.lo; omega) (by have := o.lo; omega) (by have := o.lo; omega) (by have := o.lo; omega)

noncomputable abbrev Wp := List AV → Hp → (AV → Hp → Prop) → Prop
noncomputable def W0 : Wp := fun args H Q => ∃ a b : Nat, args = [.int a, .int b] ∧ a < 2 ∧ b < 8 ∧ Q (.int ((a * 8 + b : Nat) : Int)) H
noncomputable def W1 : Wp := fun args H Q => ∃ p : Nat, args = [.int p] ∧ Q (.int ((p >>> 3 : Nat) : Int)) H
noncomputable def W2 : Wp := fun args H Q => ∃ p : Nat, args = [.int p] ∧ Q (.int ((p &&& 7 : Nat) : Int)) H
noncomputable def W5 : Wp := fun args H Q => ∃ b : Nat, args = [.int b] ∧ b < 2 ^ 16 ∧ ∀ l H', (∀ i, i ∈ l ↔ b.testBit i = true) → Ext H H' → H'[H.length]? = some (.list (intsA l)) → Q (.ref H.length) H'
noncomputable def W15 : Wp := fun args H Q => ∃ f r d s occ : Nat, args = [.ref 3, .int d, .int s, .int occ] ∧ GeoAt H f r ∧ d < 8 ∧ s < f * r ∧ Q (.int ((rayAtt f r d s occ : Nat) : Int)) H
noncomputable def W16 : Wp := fun args H Q => ∃ f r s occ : Nat, args = [.ref 3, .int s, .int occ] ∧ GeoAt H f r ∧ s < f * r ∧ Q (.int ((rookAtt f r s occ : Nat) : Int)) H
noncomputable def W17 : Wp := fun args H Q => ∃ f r s occ : Nat, args = [.ref 3, .int s, .int occ] ∧ GeoAt H f r ∧ s < f * r ∧ Q (.int ((bishopAtt f r s occ : Nat) : Int)) H
noncomputable def W18 : Wp := fun args H Q => ∃ f r s occ : Nat, args = [.ref 3, .int s, .int occ] ∧ GeoAt H f r ∧ s < f * r ∧ Q (.int ((queenAtt f r s occ : Nat) : Int)) H
noncomputable def W19 : Wp := fun args H Q => ∃ f r k s occ : Nat, args = [.ref 3, .int k, .int s, .int occ] ∧ GeoAt H f r ∧ s < f * r ∧ Q (.int ((sliderAtt f r k s occ : Nat) : Int)) H
noncomputable def W20 : Wp := fun args H Q => ∃ f r side k s occ : Nat, args = [.ref 3, .int side, .int k, .int s, .int occ] ∧ GeoAt H f r ∧ side < 2 ∧ s < f * r ∧ Q (.int ((pieceAtt f r side k s occ : Nat) : Int)) H
/-- Position(geo, zob) where the geometry lies made -/
noncomputable def W21 : Wp := fun args H Q => ∃ f r : Nat, args = [.ref 3, .ref 55] ∧ GeoAt H f r ∧ ∀ g1 g2, Q (.ref (H.length + 1)) (H ++ [.dict (posD H.length (H.length + 3) (H.length + 5) (H.length + 6) (H.length + 7) 0), .inst H.length, g1, .list (zeros (f * r)), g2, .list (zeros 7), .list (zeros 2), .list []])
noncomputable def W22 : Wp := fun args H Q => ∃ (f r : Nat) (a : PA) (B : Bd) (p s : Nat), args = [.ref a.p, .int p, .int s] ∧ ZobAt H f r ∧ PosAt H a B ∧ PAok a ∧ BdOk f r B ∧ POk p ∧ s < f * r ∧ ∀ H', PosAt H' a (putB B p s) → But a H H' → Q .none H'
noncomputable def W23 : Wp := fun args H Q => ∃ (f r : Nat) (a : PA) (B : Bd) (s : Nat), args = [.ref a.p, .int s] ∧ ZobAt H f r ∧ PosAt H a B ∧ PAok a ∧ BdOk f r B ∧ s < f * r ∧ ∀ v H', PosAt H' a (takeB B s) → But a H H' → Q v H'
noncomputable def W24 : Wp := fun args H Q => ∃ (f r : Nat) (a : PA) (B : Bd) (x y : Nat), args = [.ref a.p, .int x, .int y] ∧ ZobAt H f r ∧ PosAt H a B ∧ PAok a ∧ BdOk f r B ∧ x < f * r ∧ y < f * r ∧ ∀ H', PosAt H' a (shiftB B x y) → But a H H' → Q .none H'
noncomputable def W25 : Wp := fun args H Q => ∃ (a : PA) (B : Bd), args = [.ref a.p] ∧ PosAt H a B ∧ Q (.int ((B.occ : Nat) : Int)) H
noncomputable def W26 : Wp := fun args H Q => ∃ (a : PA) (B : Bd) (side k : Nat), args = [.ref a.p, .int side] ∧ PosAt H a B ∧ B.ki.length = 7 ∧ side < 2 ∧ k < 16 ∧ B.sd side &&& B.kd 6 = 1 <<< k ∧ Q (.int k) H
noncomputable def W27 : Wp := fun args H Q => ∃ (f r : Nat) (a : PA) (B : Bd), args = [.ref a.p] ∧ GeoAt H f r ∧ PosAt H a B ∧ BdOk f r B ∧ 56 ≤ H.length ∧ ∀ a' H', PosAt H' a' B → Ext H H' → PAok a' → (H.length ≤ a'.p ∧ H.length ≤ a'.pd ∧ H.length ≤ a'.bo ∧ H.length ≤ a'.ki ∧ H.length ≤ a'.si) → Q (.ref a'.p) H'
noncomputable def W28 : Wp := fun args H Q => ∃ (a : PA) (B : Bd), args = [.ref a.p] ∧ PosAt H a B ∧ B.ki.length = 7 ∧ Q (.int ((straightB B : Nat) : Int)) H
noncomputable def W29 : Wp := fun args H Q => ∃ (a : PA) (B : Bd), args = [.ref a.p] ∧ PosAt H a B ∧ B.ki.length = 7 ∧ Q (.int ((slantB B : Nat) : Int)) H
noncomputable def PosG (H : Hp) (f r : Nat) (a : PA) (B : Bd) : Prop := GeoAt H f r ∧ PosAt H a B ∧ BdOk f r B
theorem PosG.ext {H H' : Hp} {f r : Nat} {a : PA} {B : Bd} (g : PosG H f r a B) (e : Ext H H') : PosG H' f r a B := ⟨g.1.ext e, g.2.1.ext e, g.2.2⟩
noncomputable def W30 : Wp := fun args H Q => ∃ (f r : Nat) (a : PA) (B : Bd) (s side : Nat), args = [.ref a.p, .int s, .int side] ∧ PosG H f r a B ∧ s < f * r ∧ side < 2 ∧ Q (.int ((pawnAtk f r B s side : Nat) : Int)) H
noncomputable def W31 : Wp := fun args H Q => ∃ (f r : Nat) (a : PA) (B : Bd) (s side : Nat), args = [.ref a.p, .int s, .int side] ∧ PosG H f r a B ∧ s < f * r ∧ side < 2 ∧ Q (.int ((stepAtk f r B s side : Nat) : Int)) H
noncomputable def W32 : Wp := fun args H Q => ∃ (f r : Nat) (a : PA) (B : Bd) (s occ : Nat), args = [.ref a.p, .int s, .int occ] ∧ PosG H f r a B ∧ s < f * r ∧ Q (.int ((lineAtk f r B s occ : Nat) : Int)) H
noncomputable def W33 : Wp := fun args H Q => ∃ (f r : Nat) (a : PA) (B : Bd) (s occ : Nat), args = [.ref a.p, .int s, .int occ] ∧ PosG H f r a B ∧ s < f * r ∧ Q (.int ((atkTo f r B s occ : Nat) : Int)) H
noncomputable def W34 : Wp := fun args H Q => ∃ (f r : Nat) (a : PA) (B : Bd) (s side occ : Nat), args = [.ref a.p, .int s, .int side, .int occ] ∧ PosG H f r a B ∧ s < f * r ∧ side < 2 ∧ Q (.bool (isAtk f r B s side occ)) H
/-- k is the square of side's king -/
noncomputable def KingAt (f r : Nat) (B : Bd) (side k : Nat) : Prop := k < f * r ∧ B.sd side &&& B.kd 6 = 1 <<< k
noncomputable def W35 : Wp := fun args H Q => ∃ (f r : Nat) (a : PA) (B : Bd) (side k : Nat), args = [.ref a.p, .int side] ∧ PosG H f r a B ∧ side < 2 ∧ KingAt f r B side k ∧ Q (.int ((atkTo f r B k B.occ &&& B.sd (1 - side) : Nat) : Int)) H
noncomputable def W36 : Wp := fun args H Q => ∃ (f r : Nat) (a : PA) (B : Bd) (k : Nat), args = [.ref a.p] ∧ PosG H f r a B ∧ KingAt f r B B.side k ∧ Q (.int ((atkTo f r B k B.occ &&& B.sd (1 - B.side) : Nat) : Int)) H
noncomputable def W37 : Wp := fun args H Q => ∃ (f r : Nat) (a : PA) (B : Bd) (side k : Nat), args = [.ref a.p, .int side] ∧ PosG H f r a B ∧ side < 2 ∧ KingAt f r B side k ∧ Q (.bool (isAtk f r B k (1 - side) B.occ)) H
noncomputable def W38 : Wp := fun args H Q => ∃ (f r : Nat) (a : PA) (B : Bd) (k : Nat), args = [.ref a.p] ∧ PosG H f r a B ∧ KingAt f r B B.side k ∧ Q (.bool (isAtk f r B k (1 - B.side) B.occ)) H
noncomputable def W39 : Wp := fun args H Q => ∃ (f r : Nat) (a : PA) (B : Bd) (side occ : Nat), args = [.ref a.p, .int side, .int occ] ∧ PosG H f r a B ∧ side < 2 ∧ ∀ c H', Cov f r B side occ c → Ext H H' → Q (.int ((c : Nat) : Int)) H'
noncomputable def W40 : Wp := fun args H Q => ∃ (f r : Nat) (a : PA) (B : Bd) (side : Nat), args = [.ref a.p, .int side] ∧ PosG H f r a B ∧ side < 2 ∧ ∀ c H', Cov f r B side B.occ c → Ext H H' → Q (.int ((c : Nat) : Int)) H'
noncomputable def W41 : Wp := fun args H Q => ∃ (f r : Nat) (a : PA) (B : Bd) (side k : Nat), args = [.ref a.p, .int side] ∧ PosG H f r a B ∧ side < 2 ∧ KingAt f r B side k ∧ ∀ c H', Cov f r B (1 - side) (B.occ ^^^ 1 <<< k) c → Ext H H' → Q (.int ((c : Nat) : Int)) H'
noncomputable def W42 : Wp := fun args H Q => ∃ (f r : Nat) (a : PA) (B : Bd) (k : Nat), args = [.ref a.p] ∧ PosG H f r a B ∧ KingAt f r B B.side k ∧ ∀ c H', Cov f r B (1 - B.side) (B.occ ^^^ 1 <<< k) c → Ext H H' → Q (.int ((andn (andn ((kingT f r).getD k 0) (B.sd B.side)) c : Nat) : Int)) H'
noncomputable def Slate (H : Hp) (ns : List Int) (c : Nat) : Prop := H[0]? = some (.list (ns.map .int)) ∧ H[1]? = some (.list [.ref 0, .int c]) ∧ ns.length ≤ 100
noncomputable def W44 : Wp := fun args H Q => ∃ (ns : List Int) (c many : Nat), args = [.ref 1, .int many] ∧ Slate H ns c ∧ c < 500 ∧ 0 < many ∧ ∀ (v : Nat) H', v < many → Slate H' ns (c + 1) → (∀ i, i ≠ 1 → H'[i]? = H[i]?) → H'.length = H.length → Q (.int v) H'
/-- a man's number, or none -/
noncomputable def Man (p : Nat) : Prop := p = 0 ∨ (1 ≤ p ∧ p ≤ 6) ∨ (9 ≤ p ∧ p ≤ 14)
/-- the masks say what the board says -/
structure BoardOk (f r : Nat) (B : Bd) : Prop where
  sz : Sz f r
  bl : B.bo.length = f * r
  man : ∀ s, Man (B.bo.getD s 0)
  kl : B.ki.length = 7
  side : B.side < 2
  kb : ∀ k s, 1 ≤ k → k ≤ 6 → ((B.kd k).testBit s = true ↔ B.bo.getD s 0 &&& 7 = k)
  sb : ∀ i s, i < 2 → ((B.sd i).testBit s = true ↔ B.bo.getD s 0 ≠ 0 ∧ B.bo.getD s 0 >>> 3 = i)
/-- side's one king stands on k -/
noncomputable def King1 (B : Bd) (i k : Nat) : Prop := ∀ s, B.bo.getD s 0 = i * 8 + 6 ↔ s = k
noncomputable def moveB (B : Bd) (k t : Nat) : Bd := shiftB (if B.bo.getD t 0 = 0 then B else takeB B t) k t
noncomputable def W45 : Wp := fun args H Q => ∃ ns : List Int, args = [.ref 1] ∧ H = [.list (ns.map .int), .list [.ref 0, .int 0]] ∧ ns.length ≤ 100 ∧
  ∀ (f r : Nat) (B : Bd) (c k k' : Nat) H', GeoAt H' f r → ZobAt H' f r → PosAt H' pa0 B → BoardOk f r B → King1 B B.side k → King1 B (1 - B.side) k' → Slate H' ns c → c < 100 → 56 ≤ H'.length → Q (.ref 57) H'
noncomputable def W46 : Wp := fun args H Q => ∃ (f r : Nat) (a : PA) (B : Bd) (k t : Nat), args = [.ref a.p, .int k, .int t] ∧ GeoAt H f r ∧ ZobAt H f r ∧ PosAt H a B ∧ BoardOk f r B ∧ King1 B B.side k ∧ t < f * r ∧ t ≠ k ∧ 56 ≤ H.length ∧
  ∀ H', Ext H H' → Q (.bool (!isAtk f r (moveB B k t) t (1 - B.side) (moveB B k t).occ)) H'
end Mine

namespace Mine
noncomputable def Wn : Nat → Wp
  | 0 => W0 | 1 => W1 | 2 => W2 | 5 => W5 | 15 => W15 | 16 => W16 | 17 => W17 | 18 => W18 | 19 => W19 | 20 => W20 | 21 => W21 | 22 => W22 | 23 => W23 | 24 => W24 | 25 => W25 | 26 => W26 | 27 => W27 | 28 => W28 | 29 => W29 | 30 => W30 | 31 => W31
  | 32 => W32 | 33 => W33 | 34 => W34 | 35 => W35 | 36 => W36 | 37 => W37 | 38 => W38 | 39 => W39 | 40 => W40 | 41 => W41 | 42 => W42 | 44 => W44 | 45 => W45 | 46 => W46
  | _ => fun _ _ _ => False
noncomputable def Sp (f : Nat) : Wp := fun args H Q => Run f args H Q ∨ Wn f args H Q
noncomputable def Oo (ρ : Nat) : Orc := fun f args H Q => rk f ≤ ρ ∧ Sp f args H Q
noncomputable abbrev Body (ρ np nv : Nat) (b : List S) (W : Wp) : Prop := ∀ args H Q, W args H Q → args.length = np ∧ wSs (Oo ρ) b (args ++ List.replicate (nv - np) .undef) H (fun fl _ H' => Q (retOf fl) H')

theorem intsA_get {l : List Nat} {i : Nat} (h : i < l.length) : (intsA l)[i]? = some (.int ((l.getD i 0 : Nat) : Int)) := by
  unfold intsA
  rw [List.getElem?_map, List.getElem?_eq_getElem h]
  simp [List.getD, List.getElem?_eq_getElem h]
theorem tab_len (f r : Nat) (g : Nat → Nat) : (tab f r g).length = f * r := by simp [tab]
theorem tab_get {f r s : Nat} (g : Nat → Nat) (h : s < f * r) : (tab f r g).getD s 0 = g s := by simp [tab, List.getD, h]

theorem band_7 (p : Nat) : Builtin.bitAnd (p : Int) 7 = ((p &&& 7 : Nat) : Int) := band_nat p 7
theorem band_15 (p : Nat) : Builtin.bitAnd (p : Int) 15 = ((p &&& 15 : Nat) : Int) := band_nat p 15
theorem band_1 (p : Nat) : Builtin.bitAnd (p : Int) 1 = ((p &&& 1 : Nat) : Int) := band_nat p 1
theorem bor_0 (p : Nat) : Builtin.bitOr 0 (p : Int) = ((0 ||| p : Nat) : Int) := bor_nat 0 p
theorem shr_1 (p : Nat) : Int.fdiv (p : Int) (2 ^ 1) = ((p >>> 1 : Nat) : Int) := shr_nat p 1
theorem shr_2 (p : Nat) : Int.fdiv (p : Int) (2 ^ 2) = ((p >>> 2 : Nat) : Int) := shr_nat p 2
theorem shr_3 (p : Nat) : Int.fdiv (p : Int) (2 ^ 3) = ((p >>> 3 : Nat) : Int) := shr_nat p 3
theorem shr_4 (p : Nat) : Int.fdiv (p : Int) (2 ^ 4) = ((p >>> 4 : Nat) : Int) := shr_nat p 4
theorem shr_8 (p : Nat) : Int.fdiv (p : Int) (2 ^ 8) = ((p >>> 8 : Nat) : Int) := shr_nat p 8
theorem shr_16 (p : Nat) : Int.fdiv (p : Int) (2 ^ 16) = ((p >>> 16 : Nat) : Int) := shr_nat p 16
theorem shr_32 (p : Nat) : Int.fdiv (p : Int) (2 ^ 32) = ((p >>> 32 : Nat) : Int) := shr_nat p 32
theorem shr_v (p n : Nat) : Int.fdiv (p : Int) ((2 : Int) ^ n) = ((p >>> n : Nat) : Int) := by have := shr_nat p n; rwa [Int.toNat_natCast] at this
theorem shl_1 (n : Nat) : (1 : Int) * (2 : Int) ^ n = ((1 <<< n : Nat) : Int) := by have := shl_nat 1 n; rwa [Int.toNat_natCast] at this
theorem ki_get {B : Bd} (h : B.ki.length = 7) {k : Nat} (hk : k < 7) : (intsA B.ki)[k]? = some (.int ((B.kd k : Nat) : Int)) := intsA_get (h ▸ hk)
theorem sd_get {B : Bd} {side : Nat} (h : side < 2) : (intsA [B.s0, B.s1])[side]? = some (.int ((B.sd side : Nat) : Int)) := by
  match side, h with
  | 0, _ => rfl
  | 1, _ => rfl
  | n + 2, h => exact absurd h (by omega)
theorem sub_side {side : Nat} (h : side < 2) : (1 : Int) - side = ((1 - side : Nat) : Int) := by omega
theorem tabA_get {f r s : Nat} {g : Nat → Nat} (h : s < f * r) : (intsA (tab f r g))[s]? = some (.int (((tab f r g).getD s 0 : Nat) : Int)) := intsA_get (by rw [tab_len]; exact h)


section
variable {O : Orc} {r : List S} {l : List AV} {H : Hp} {Q : Cont}
noncomputable abbrev Nx (O : Orc) (r : List S) (Q : Cont) : Cont := fun fl l H => match fl with
  | .next => wSs O r l H Q
  | fl => Q fl l H
theorem st_nil (h : Q .next l H) : wSs O [] l H Q := by rw [wSs]; exact h
theorem st_assign {n e} (h : wE O l e H fun v H => wSs O r (lset l n v) H Q) : wSs O (.assign n e :: r) l H Q := by rw [wSs, wS]; exact h
theorem st_assign2 {n₁ n₂ e₁ e₂} (h : wE O l e₁ H fun v₁ H => wE O l e₂ H fun v₂ H => wSs O r (lset (lset l n₂ v₂) n₁ v₁) H Q) : wSs O (.assign2 n₁ n₂ e₁ e₂ :: r) l H Q := by rw [wSs, wS]; exact h
theorem st_assign3 {n₁ n₂ n₃ e₁ e₂ e₃} (h : wE O l e₁ H fun v₁ H => wE O l e₂ H fun v₂ H => wE O l e₃ H fun v₃ H => wSs O r (lset (lset (lset l n₃ v₃) n₂ v₂) n₁ v₁) H Q) : wSs O (.assign3 n₁ n₂ n₃ e₁ e₂ e₃ :: r) l H Q := by rw [wSs, wS]; exact h
theorem st_attrSet {o n e} (h : wE O l e H fun v H => wE O l o H fun ov H => wSetA ov n v H fun H => wSs O r l H Q) : wSs O (.attrSet o n e :: r) l H Q := by rw [wSs, wS]; exact h
theorem st_subSet {o i e} (h : wE O l e H fun v H => wE O l o H fun ov H => wE O l i H fun iv H => wSetI ov iv v H fun H => wSs O r l H Q) : wSs O (.subSet o i e :: r) l H Q := by rw [wSs, wS]; exact h
theorem st_augN {n op e} (h : wVar l n fun old => wE O l e H fun v H => (match old, v with | .int x, .int y => binI op x y fun z => wSs O r (lset l n (.int z)) H Q | _, _ => False)) : wSs O (.augN n op e :: r) l H Q := by rw [wSs, wS]; exact h
theorem st_augA {o n op e} (h : wE O l o H fun ov H => wGetA ov n H fun old => wE O l e H fun v H => (match old, v with | .int x, .int y => binI op x y fun z => wSetA ov n (.int z) H fun H => wSs O r l H Q | _, _ => False)) : wSs O (.augA o n op e :: r) l H Q := by rw [wSs, wS]; exact h
theorem st_augS {o i op e} (h : wE O l o H fun ov H => wE O l i H fun iv H => wGetI ov iv H fun old => wE O l e H fun v H => (match old, v with | .int x, .int y => binI op x y fun z => wSetI ov iv (.int z) H fun H => wSs O r l H Q | _, _ => False)) : wSs O (.augS o i op e :: r) l H Q := by rw [wSs, wS]; exact h
theorem st_expr {e} (h : wE O l e H fun _ H => wSs O r l H Q) : wSs O (.expr e :: r) l H Q := by rw [wSs, wS]; exact h
theorem st_ret {e} (h : wE O l e H fun v H => Q (.ret v) l H) : wSs O (.ret e :: r) l H Q := by rw [wSs, wS]; exact h
theorem st_ife {t a b} (h : wT O l t H fun c H => match c with | true => wSs O a l H (Nx O r Q) | false => wSs O b l H (Nx O r Q)) : wSs O (.ife t a b :: r) l H Q := by rw [wSs, wS]; exact h
theorem st_loop {t b} (h : ∃ n, wWh (fun l H Q => wT O l t H Q) (wSs O b) n l H (Nx O r Q)) : wSs O (.loop t b :: r) l H Q := by rw [wSs, wS]; exact h
theorem st_forR {x as b} (h : wEs O l as H fun vs H => (match rangeA vs with | some (a, d, c) => rangeOk a d c ∧ wFor (fun _ => True) (wSs O b) x (rangeVals a d c) l H (Nx O r Q) | none => False)) : wSs O (.forR x as b :: r) l H Q := by rw [wSs, wS]; exact h
theorem st_forV {x e b} (h : wE O l e H fun v H => wIter (wSs O b) x v l H (Nx O r Q)) : wSs O (.forV x e b :: r) l H Q := by rw [wSs, wS]; exact h
theorem nx_next (h : wSs O r l H Q) : Nx O r Q .next l H := h
theorem nx_ret {v} (h : Q (.ret v) l H) : Nx O r Q (.ret v) l H := h
end
theorem body_make_piece : Body 0 2 2 b_make_piece W0 := by
  rintro args H Q ⟨a, b, rfl, ha, hb, q⟩
  refine ⟨rfl, ?_⟩
  simp only [b_make_piece, wSs, wS, wE, wEs, wT, wVar, lget, lset, wBin, binI, cmpA, cmpI, cmpB, truthA, wGetA, getF, wGetI, wSetA, putF, wSetI, wApp, rangeA, retOf, List.append_eq, List.cons_append, List.nil_append, List.length_cons, List.length_nil, List.replicate, ↓reduceIte, Nat.reduceEqDiff, if_true, if_false, List.getElem?_cons_zero, List.getElem?_cons_succ, Int.toNat_zero, Int.toNat_one, Nat.reduceAdd, Nat.reduceSub, Int.toNat_natCast, Int.reduceToNat, band_nat, bor_nat, bxor_nat, bandn_nat, band_7, band_15, band_1, bor_0, shr_1, shr_2, shr_3, shr_4, shr_8, shr_16, shr_32, shl_1, shr_v]
  refine ⟨.inl (by omega), ?_⟩
  simpa using q
theorem body_side_of : Body 0 1 1 b_side_of W1 := by
  rintro args H Q ⟨p, rfl, q⟩
  refine ⟨rfl, ?_⟩
  simp only [b_side_of, wSs, wS, wE, wEs, wT, wVar, lget, lset, wBin, binI, cmpA, cmpI, cmpB, truthA, wGetA, getF, wGetI, wSetA, putF, wSetI, wApp, rangeA, retOf, List.append_eq, List.cons_append, List.nil_append, List.length_cons, List.length_nil, List.replicate, ↓reduceIte, Nat.reduceEqDiff, if_true, if_false, List.getElem?_cons_zero, List.getElem?_cons_succ, Int.toNat_zero, Int.toNat_one, Nat.reduceAdd, Nat.reduceSub, Int.toNat_natCast, Int.reduceToNat, band_nat, bor_nat, bxor_nat, bandn_nat, band_7, band_15, band_1, bor_0, shr_1, shr_2, shr_3, shr_4, shr_8, shr_16, shr_32, shl_1, shr_v]
  exact ⟨by decide, q⟩
theorem body_kind_of : Body 0 1 1 b_kind_of W2 := by
  rintro args H Q ⟨p, rfl, q⟩
  refine ⟨rfl, ?_⟩
  simp only [b_kind_of, wSs, wS, wE, wEs, wT, wVar, lget, lset, wBin, binI, cmpA, cmpI, cmpB, truthA, wGetA, getF, wGetI, wSetA, putF, wSetI, wApp, rangeA, retOf, List.append_eq, List.cons_append, List.nil_append, List.length_cons, List.length_nil, List.replicate, ↓reduceIte, Nat.reduceEqDiff, if_true, if_false, List.getElem?_cons_zero, List.getElem?_cons_succ, Int.toNat_zero, Int.toNat_one, Nat.reduceAdd, Nat.reduceSub, Int.toNat_natCast, Int.reduceToNat, band_nat, bor_nat, bxor_nat, bandn_nat, band_7, band_15, band_1, bor_0, shr_1, shr_2, shr_3, shr_4, shr_8, shr_16, shr_32, shl_1, shr_v]
  exact q
theorem body_occupied : Body 0 1 1 b_occupied W25 := by
  rintro args H Q ⟨a, B, rfl, P, q⟩
  refine ⟨rfl, ?_⟩
  have e0 := sd_get (B := B) (side := 0) (by decide)
  have e1 := sd_get (B := B) (side := 1) (by decide)
  simp only [b_occupied, wSs, wS, wE, wEs, wT, wVar, lget, lset, wBin, binI, cmpA, cmpI, cmpB, truthA, wGetA, getF, wGetI, wSetA, putF, wSetI, wApp, rangeA, retOf, List.append_eq, List.cons_append, List.nil_append, List.length_cons, List.length_nil, List.replicate, ↓reduceIte, Nat.reduceEqDiff, if_true, if_false, List.getElem?_cons_zero, List.getElem?_cons_succ, Int.toNat_zero, Int.toNat_one, Nat.reduceAdd, Nat.reduceSub, Int.toNat_natCast, Int.reduceToNat, band_nat, bor_nat, bxor_nat, bandn_nat, band_7, band_15, band_1, bor_0, shr_1, shr_2, shr_3, shr_4, shr_8, shr_16, shr_32, shl_1, shr_v, P.i, P.d, P.si, posD, e0, e1]
  exact ⟨by omega, by omega, q⟩
theorem body_straight : Body 0 1 1 b_straight_sliders W28 := by
  rintro args H Q ⟨a, B, rfl, P, kl, q⟩
  refine ⟨rfl, ?_⟩
  have e0 := ki_get kl (k := 4) (by decide)
  have e1 := ki_get kl (k := 5) (by decide)
  simp only [b_straight_sliders, wSs, wS, wE, wEs, wT, wVar, lget, lset, wBin, binI, cmpA, cmpI, cmpB, truthA, wGetA, getF, wGetI, wSetA, putF, wSetI, wApp, rangeA, retOf, List.append_eq, List.cons_append, List.nil_append, List.length_cons, List.length_nil, List.replicate, ↓reduceIte, Nat.reduceEqDiff, if_true, if_false, List.getElem?_cons_zero, List.getElem?_cons_succ, Int.toNat_zero, Int.toNat_one, Nat.reduceAdd, Nat.reduceSub, Int.toNat_natCast, Int.reduceToNat, band_nat, bor_nat, bxor_nat, bandn_nat, band_7, band_15, band_1, bor_0, shr_1, shr_2, shr_3, shr_4, shr_8, shr_16, shr_32, shl_1, shr_v, P.i, P.d, P.ki, posD, e0, e1]
  exact ⟨by omega, by omega, q⟩
theorem body_slanting : Body 0 1 1 b_slanting_sliders W29 := by
  rintro args H Q ⟨a, B, rfl, P, kl, q⟩
  refine ⟨rfl, ?_⟩
  have e0 := ki_get kl (k := 3) (by decide)
  have e1 := ki_get kl (k := 5) (by decide)
  simp only [b_slanting_sliders, wSs, wS, wE, wEs, wT, wVar, lget, lset, wBin, binI, cmpA, cmpI, cmpB, truthA, wGetA, getF, wGetI, wSetA, putF, wSetI, wApp, rangeA, retOf, List.append_eq, List.cons_append, List.nil_append, List.length_cons, List.length_nil, List.replicate, ↓reduceIte, Nat.reduceEqDiff, if_true, if_false, List.getElem?_cons_zero, List.getElem?_cons_succ, Int.toNat_zero, Int.toNat_one, Nat.reduceAdd, Nat.reduceSub, Int.toNat_natCast, Int.reduceToNat, band_nat, bor_nat, bxor_nat, bandn_nat, band_7, band_15, band_1, bor_0, shr_1, shr_2, shr_3, shr_4, shr_8, shr_16, shr_32, shl_1, shr_v, P.i, P.d, P.ki, posD, e0, e1]
  exact ⟨by omega, by omega, q⟩
theorem body_pawn_attackers : Body 0 3 3 b_pawn_attackers W30 := by
  rintro args H Q ⟨f, r, a, B, s, side, rfl, ⟨G, P, K⟩, hs, hside, q⟩
  refine ⟨rfl, ?_⟩
  have hle := K.sz.le
  have e1 := ki_get K.kl (k := 1) (by decide)
  have e2 := sd_get (B := B) hside
  have e3 : (intsA (pawnT f r (1 - side)))[s]? = some (.int (((pawnT f r (1 - side)).getD s 0 : Nat) : Int)) := tabA_get hs
  have e4 : ([AV.ref 9, .ref 10] : List AV)[1 - side]? = some (.ref (9 + (1 - side))) := by
    match side, hside with
    | 0, _ => rfl
    | 1, _ => rfl
    | n + 2, h => exact absurd h (by omega)
  have e5 : H[9 + (1 - side)]? = some (.list (intsA (pawnT f r (1 - side)))) := by
    match side, hside with
    | 0, _ => exact G.p1
    | 1, _ => exact G.p0
    | n + 2, h => exact absurd h (by omega)
  simp only [b_pawn_attackers, wSs, wS, wE, wEs, wT, wVar, lget, lset, wBin, binI, cmpA, cmpI, cmpB, truthA, wGetA, getF, wGetI, wSetA, putF, wSetI, wApp, rangeA, retOf, List.append_eq, List.cons_append, List.nil_append, List.length_cons, List.length_nil, List.replicate, ↓reduceIte, Nat.reduceEqDiff, if_true, if_false, List.getElem?_cons_zero, List.getElem?_cons_succ, Int.toNat_zero, Int.toNat_one, Nat.reduceAdd, Nat.reduceSub, Int.toNat_natCast, Int.reduceToNat, band_nat, bor_nat, bxor_nat, bandn_nat, band_7, band_15, band_1, bor_0, shr_1, shr_2, shr_3, shr_4, shr_8, shr_16, shr_32, shl_1, shr_v, P.i, P.d, P.ki, P.si, G.i, G.d, G.pawn, posD, geoD, sub_side hside, e1, e2, e3, e4, e5]
  exact ⟨by omega, by omega, by omega, by omega, q⟩
theorem body_step_attackers : Body 1 3 5 b_step_attackers W31 := by
  rintro args H Q ⟨f, r, a, B, s, side, rfl, ⟨G, P, K⟩, hs, hside, q⟩
  refine ⟨rfl, ?_⟩
  have hle := K.sz.le
  have e1 := ki_get K.kl (k := 2) (by decide)
  have e1' := ki_get K.kl (k := 6) (by decide)
  have e2 := sd_get (B := B) hside
  have e3 : (intsA (knightT f r))[s]? = some (.int (((knightT f r).getD s 0 : Nat) : Int)) := tabA_get hs
  have e4 : (intsA (kingT f r))[s]? = some (.int (((kingT f r).getD s 0 : Nat) : Int)) := tabA_get hs
  simp only [b_step_attackers, wSs, wS, wE, wEs, wT, wVar, lget, lset, wBin, binI, cmpA, cmpI, cmpB, truthA, wGetA, getF, wGetI, wSetA, putF, wSetI, wApp, rangeA, retOf, List.append_eq, List.cons_append, List.nil_append, List.length_cons, List.length_nil, List.replicate, ↓reduceIte, Nat.reduceEqDiff, if_true, if_false, List.getElem?_cons_zero, List.getElem?_cons_succ, Int.toNat_zero, Int.toNat_one, Nat.reduceAdd, Nat.reduceSub, Int.toNat_natCast, Int.reduceToNat, band_nat, bor_nat, bxor_nat, bandn_nat, band_7, band_15, band_1, bor_0, shr_1, shr_2, shr_3, shr_4, shr_8, shr_16, shr_32, shl_1, shr_v, P.i, P.d, P.ki, P.si, G.i, G.d, G.knight, G.king, posD, geoD, e1, e1', e2, e3, e4]
  refine ⟨by omega, by omega, by omega, by omega, ⟨by decide, .inr ⟨f, r, a, B, s, side, rfl, ⟨G, P, K⟩, hs, hside, ?_⟩⟩⟩
  simp only [wSs, wS, wE, wEs, wT, wVar, lget, lset, wBin, binI, cmpA, cmpI, cmpB, truthA, wGetA, getF, wGetI, wSetA, putF, wSetI, wApp, rangeA, retOf, List.append_eq, List.cons_append, List.nil_append, List.length_cons, List.length_nil, List.replicate, ↓reduceIte, Nat.reduceEqDiff, if_true, if_false, List.getElem?_cons_zero, List.getElem?_cons_succ, Int.toNat_zero, Int.toNat_one, Nat.reduceAdd, Nat.reduceSub, Int.toNat_natCast, Int.reduceToNat, band_nat, bor_nat, bxor_nat, bandn_nat, band_7, band_15, band_1, bor_0, shr_1, shr_2, shr_3, shr_4, shr_8, shr_16, shr_32, shl_1, shr_v, P.i, P.d, P.si, posD, e2]
  exact ⟨by omega, q⟩
theorem body_king_square : Body 2 2 2 b_king_square W26 := by
  rintro args H Q ⟨a, B, side, k, rfl, P, kl, hside, hk, hkk, q⟩
  refine ⟨rfl, ?_⟩
  have e1 := ki_get kl (k := 6) (by decide)
  have e2 := sd_get (B := B) hside
  simp only [b_king_square, wSs, wS, wE, wEs, wT, wVar, lget, lset, wBin, binI, cmpA, cmpI, cmpB, truthA, wGetA, getF, wGetI, wSetA, putF, wSetI, wApp, rangeA, retOf, List.append_eq, List.cons_append, List.nil_append, List.length_cons, List.length_nil, List.replicate, ↓reduceIte, Nat.reduceEqDiff, if_true, if_false, List.getElem?_cons_zero, List.getElem?_cons_succ, Int.toNat_zero, Int.toNat_one, Nat.reduceAdd, Nat.reduceSub, Int.toNat_natCast, Int.reduceToNat, band_nat, bor_nat, bxor_nat, bandn_nat, band_7, band_15, band_1, bor_0, shr_1, shr_2, shr_3, shr_4, shr_8, shr_16, shr_32, shl_1, shr_v, P.i, P.d, P.ki, P.si, posD, e1, e2, hkk]
  exact ⟨by omega, by omega, by decide, .inl ⟨2, _, _, lowest_run k H hk, q⟩⟩
theorem body_ray : Body 1 4 7 b_ray_attacks W15 := by
  rintro args H Q ⟨f, r, d, s, occ, rfl, G, hd, hs, q⟩
  refine ⟨rfl, ?_⟩
  have hle := G.sz.le
  have e1 : (rayAd.map AV.ref)[d]? = some (.ref (rayAd.getD d 0)) := by
    have : d < rayAd.length := hd
    rw [List.getElem?_map, List.getElem?_eq_getElem this]
    simp [List.getD, List.getElem?_eq_getElem this]
  have e2 : (intsA (rayT f r d))[s]? = some (.int ((mk (rayL f r d s) : Nat) : Int)) := by
    have := tabA_get (f := f) (r := r) (s := s) (g := fun s => mk (rayL f r d s)) hs
    rw [tab_get _ hs] at this
    exact this
  rw [← fAtt_ok G.sz hs hd] at q
  unfold fAtt at q
  generalize mk (rayL f r d s) = ray at e2 q
  unfold b_ray_attacks
  refine st_assign ?_
  simp only [wE, wEs, wT, wVar, lget, lset, wBin, binI, cmpA, cmpI, cmpB, truthA, wGetA, getF, wGetI, wSetA, putF, wSetI, wApp, rangeA, List.append_eq, List.cons_append, List.nil_append, List.length_cons, List.length_nil, List.replicate, ↓reduceIte, Nat.reduceEqDiff, if_true, if_false, List.getElem?_cons_zero, List.getElem?_cons_succ, Int.toNat_zero, Int.toNat_one, Nat.reduceAdd, Nat.reduceSub, Int.toNat_natCast, Int.reduceToNat, band_nat, bor_nat, bxor_nat, bandn_nat, band_7, band_15, band_1, bor_0, shr_1, shr_2, shr_3, shr_4, shr_8, shr_16, shr_32, shl_1, shr_v, G.i, G.d, G.rays, G.ray d hd, geoD, e1, e2]
  refine ⟨by omega, by omega, st_assign ?_⟩
  simp only [wE, wEs, wT, wVar, lget, lset, wBin, binI, cmpA, cmpI, cmpB, truthA, wGetA, getF, wGetI, wSetA, putF, wSetI, wApp, rangeA, List.append_eq, List.cons_append, List.nil_append, List.length_cons, List.length_nil, List.replicate, ↓reduceIte, Nat.reduceEqDiff, if_true, if_false, List.getElem?_cons_zero, List.getElem?_cons_succ, Int.toNat_zero, Int.toNat_one, Nat.reduceAdd, Nat.reduceSub, Int.toNat_natCast, Int.reduceToNat, band_nat, bor_nat, bxor_nat, bandn_nat, band_7, band_15, band_1, bor_0, shr_1, shr_2, shr_3, shr_4, shr_8, shr_16, shr_32, shl_1, shr_v]
  refine st_ife ?_
  simp only [wE, wEs, wT, wVar, lget, lset, wBin, binI, cmpA, cmpI, cmpB, truthA, wGetA, getF, wGetI, wSetA, putF, wSetI, wApp, rangeA, List.append_eq, List.cons_append, List.nil_append, List.length_cons, List.length_nil, List.replicate, ↓reduceIte, Nat.reduceEqDiff, if_true, if_false, List.getElem?_cons_zero, List.getElem?_cons_succ, Int.toNat_zero, Int.toNat_one, Nat.reduceAdd, Nat.reduceSub, Int.toNat_natCast, Int.reduceToNat, band_nat, bor_nat, bxor_nat, bandn_nat, band_7, band_15, band_1, bor_0, shr_1, shr_2, shr_3, shr_4, shr_8, shr_16, shr_32, shl_1, shr_v]
  by_cases h0 : ray &&& occ = 0
  · have : (((ray &&& occ : Nat) : Int) == 0) = true := by rw [h0]; rfl
    rw [this]
    refine st_ret ?_
    simp only [wE, wEs, wT, wVar, lget, lset, wBin, binI, cmpA, cmpI, cmpB, truthA, wGetA, getF, wGetI, wSetA, putF, wSetI, wApp, rangeA, List.append_eq, List.cons_append, List.nil_append, List.length_cons, List.length_nil, List.replicate, ↓reduceIte, Nat.reduceEqDiff, if_true, if_false, List.getElem?_cons_zero, List.getElem?_cons_succ, Int.toNat_zero, Int.toNat_one, Nat.reduceAdd, Nat.reduceSub, Int.toNat_natCast, Int.reduceToNat, band_nat, bor_nat, bxor_nat, bandn_nat, band_7, band_15, band_1, bor_0, shr_1, shr_2, shr_3, shr_4, shr_8, shr_16, shr_32, shl_1, shr_v]
    refine nx_ret ?_
    simpa [h0, retOf] using q
  · have : (((ray &&& occ : Nat) : Int) == 0) = false := by
      rw [beq_eq_false_iff_ne]; omega
    rw [this]
    refine st_nil (nx_next (st_ife ?_))
    simp only [wE, wEs, wT, wVar, lget, lset, wBin, binI, cmpA, cmpI, cmpB, truthA, wGetA, getF, wGetI, wSetA, putF, wSetI, wApp, rangeA, List.append_eq, List.cons_append, List.nil_append, List.length_cons, List.length_nil, List.replicate, ↓reduceIte, Nat.reduceEqDiff, if_true, if_false, List.getElem?_cons_zero, List.getElem?_cons_succ, Int.toNat_zero, Int.toNat_one, Nat.reduceAdd, Nat.reduceSub, Int.toNat_natCast, Int.reduceToNat, band_nat, bor_nat, bxor_nat, bandn_nat, band_7, band_15, band_1, bor_0, shr_1, shr_2, shr_3, shr_4, shr_8, shr_16, shr_32, shl_1, shr_v]
    refine ⟨by decide, .inl ⟨1, _, _, grow_run d H hd, ?_⟩⟩
    simp only [wE, wEs, wT, wVar, lget, lset, wBin, binI, cmpA, cmpI, cmpB, truthA, wGetA, getF, wGetI, wSetA, putF, wSetI, wApp, rangeA, List.append_eq, List.cons_append, List.nil_append, List.length_cons, List.length_nil, List.replicate, ↓reduceIte, Nat.reduceEqDiff, if_true, if_false, List.getElem?_cons_zero, List.getElem?_cons_succ, Int.toNat_zero, Int.toNat_one, Nat.reduceAdd, Nat.reduceSub, Int.toNat_natCast, Int.reduceToNat, band_nat, bor_nat, bxor_nat, bandn_nat, band_7, band_15, band_1, bor_0, shr_1, shr_2, shr_3, shr_4, shr_8, shr_16, shr_32, shl_1, shr_v]
    cases hg : grow d with
    | true =>
      simp only [hg, h0, if_false, if_true] at q
      generalize ray &&& occ = st at h0 q
      refine st_ret ?_
      simp only [wE, wEs, wT, wVar, lget, lset, wBin, binI, cmpA, cmpI, cmpB, truthA, wGetA, getF, wGetI, wSetA, putF, wSetI, wApp, rangeA, List.append_eq, List.cons_append, List.nil_append, List.length_cons, List.length_nil, List.replicate, ↓reduceIte, Nat.reduceEqDiff, if_true, if_false, List.getElem?_cons_zero, List.getElem?_cons_succ, Int.toNat_zero, Int.toNat_one, Nat.reduceAdd, Nat.reduceSub, Int.toNat_natCast, Int.reduceToNat, band_nat, bor_nat, bxor_nat, bandn_nat, band_7, band_15, band_1, bor_0, shr_1, shr_2, shr_3, shr_4, shr_8, shr_16, shr_32, shl_1, shr_v]
      have e : (st : Int) - 1 = ((st - 1 : Nat) : Int) := by omega
      rw [e]
      simp only [wE, wEs, wT, wVar, lget, lset, wBin, binI, cmpA, cmpI, cmpB, truthA, wGetA, getF, wGetI, wSetA, putF, wSetI, wApp, rangeA, List.append_eq, List.cons_append, List.nil_append, List.length_cons, List.length_nil, List.replicate, ↓reduceIte, Nat.reduceEqDiff, if_true, if_false, List.getElem?_cons_zero, List.getElem?_cons_succ, Int.toNat_zero, Int.toNat_one, Nat.reduceAdd, Nat.reduceSub, Int.toNat_natCast, Int.reduceToNat, band_nat, bor_nat, bxor_nat, bandn_nat, band_7, band_15, band_1, bor_0, shr_1, shr_2, shr_3, shr_4, shr_8, shr_16, shr_32, shl_1, shr_v]
      exact q
    | false =>
      simp only [hg, h0, if_false, Bool.false_eq_true, smear] at q
      generalize ray &&& occ = st at h0 q
      refine st_nil (nx_next (st_assign ?_))
      simp only [wE, wEs, wT, wVar, lget, lset, wBin, binI, cmpA, cmpI, cmpB, truthA, wGetA, getF, wGetI, wSetA, putF, wSetI, wApp, rangeA, List.append_eq, List.cons_append, List.nil_append, List.length_cons, List.length_nil, List.replicate, ↓reduceIte, Nat.reduceEqDiff, if_true, if_false, List.getElem?_cons_zero, List.getElem?_cons_succ, Int.toNat_zero, Int.toNat_one, Nat.reduceAdd, Nat.reduceSub, Int.toNat_natCast, Int.reduceToNat, band_nat, bor_nat, bxor_nat, bandn_nat, band_7, band_15, band_1, bor_0, shr_1, shr_2, shr_3, shr_4, shr_8, shr_16, shr_32, shl_1, shr_v]
      refine ⟨by decide, st_augN ?_⟩
      simp only [wE, wEs, wT, wVar, lget, lset, wBin, binI, cmpA, cmpI, cmpB, truthA, wGetA, getF, wGetI, wSetA, putF, wSetI, wApp, rangeA, List.append_eq, List.cons_append, List.nil_append, List.length_cons, List.length_nil, List.replicate, ↓reduceIte, Nat.reduceEqDiff, if_true, if_false, List.getElem?_cons_zero, List.getElem?_cons_succ, Int.toNat_zero, Int.toNat_one, Nat.reduceAdd, Nat.reduceSub, Int.toNat_natCast, Int.reduceToNat, band_nat, bor_nat, bxor_nat, bandn_nat, band_7, band_15, band_1, bor_0, shr_1, shr_2, shr_3, shr_4, shr_8, shr_16, shr_32, shl_1, shr_v]
      refine ⟨by decide, st_augN ?_⟩
      simp only [wE, wEs, wT, wVar, lget, lset, wBin, binI, cmpA, cmpI, cmpB, truthA, wGetA, getF, wGetI, wSetA, putF, wSetI, wApp, rangeA, List.append_eq, List.cons_append, List.nil_append, List.length_cons, List.length_nil, List.replicate, ↓reduceIte, Nat.reduceEqDiff, if_true, if_false, List.getElem?_cons_zero, List.getElem?_cons_succ, Int.toNat_zero, Int.toNat_one, Nat.reduceAdd, Nat.reduceSub, Int.toNat_natCast, Int.reduceToNat, band_nat, bor_nat, bxor_nat, bandn_nat, band_7, band_15, band_1, bor_0, shr_1, shr_2, shr_3, shr_4, shr_8, shr_16, shr_32, shl_1, shr_v]
      refine ⟨by decide, st_augN ?_⟩
      simp only [wE, wEs, wT, wVar, lget, lset, wBin, binI, cmpA, cmpI, cmpB, truthA, wGetA, getF, wGetI, wSetA, putF, wSetI, wApp, rangeA, List.append_eq, List.cons_append, List.nil_append, List.length_cons, List.length_nil, List.replicate, ↓reduceIte, Nat.reduceEqDiff, if_true, if_false, List.getElem?_cons_zero, List.getElem?_cons_succ, Int.toNat_zero, Int.toNat_one, Nat.reduceAdd, Nat.reduceSub, Int.toNat_natCast, Int.reduceToNat, band_nat, bor_nat, bxor_nat, bandn_nat, band_7, band_15, band_1, bor_0, shr_1, shr_2, shr_3, shr_4, shr_8, shr_16, shr_32, shl_1, shr_v]
      refine ⟨by decide, st_augN ?_⟩
      simp only [wE, wEs, wT, wVar, lget, lset, wBin, binI, cmpA, cmpI, cmpB, truthA, wGetA, getF, wGetI, wSetA, putF, wSetI, wApp, rangeA, List.append_eq, List.cons_append, List.nil_append, List.length_cons, List.length_nil, List.replicate, ↓reduceIte, Nat.reduceEqDiff, if_true, if_false, List.getElem?_cons_zero, List.getElem?_cons_succ, Int.toNat_zero, Int.toNat_one, Nat.reduceAdd, Nat.reduceSub, Int.toNat_natCast, Int.reduceToNat, band_nat, bor_nat, bxor_nat, bandn_nat, band_7, band_15, band_1, bor_0, shr_1, shr_2, shr_3, shr_4, shr_8, shr_16, shr_32, shl_1, shr_v]
      refine ⟨by decide, st_augN ?_⟩
      simp only [wE, wEs, wT, wVar, lget, lset, wBin, binI, cmpA, cmpI, cmpB, truthA, wGetA, getF, wGetI, wSetA, putF, wSetI, wApp, rangeA, List.append_eq, List.cons_append, List.nil_append, List.length_cons, List.length_nil, List.replicate, ↓reduceIte, Nat.reduceEqDiff, if_true, if_false, List.getElem?_cons_zero, List.getElem?_cons_succ, Int.toNat_zero, Int.toNat_one, Nat.reduceAdd, Nat.reduceSub, Int.toNat_natCast, Int.reduceToNat, band_nat, bor_nat, bxor_nat, bandn_nat, band_7, band_15, band_1, bor_0, shr_1, shr_2, shr_3, shr_4, shr_8, shr_16, shr_32, shl_1, shr_v]
      refine ⟨by decide, st_augN ?_⟩
      simp only [wE, wEs, wT, wVar, lget, lset, wBin, binI, cmpA, cmpI, cmpB, truthA, wGetA, getF, wGetI, wSetA, putF, wSetI, wApp, rangeA, List.append_eq, List.cons_append, List.nil_append, List.length_cons, List.length_nil, List.replicate, ↓reduceIte, Nat.reduceEqDiff, if_true, if_false, List.getElem?_cons_zero, List.getElem?_cons_succ, Int.toNat_zero, Int.toNat_one, Nat.reduceAdd, Nat.reduceSub, Int.toNat_natCast, Int.reduceToNat, band_nat, bor_nat, bxor_nat, bandn_nat, band_7, band_15, band_1, bor_0, shr_1, shr_2, shr_3, shr_4, shr_8, shr_16, shr_32, shl_1, shr_v]
      refine ⟨by decide, st_ret ?_⟩
      simp only [wE, wEs, wT, wVar, lget, lset, wBin, binI, cmpA, cmpI, cmpB, truthA, wGetA, getF, wGetI, wSetA, putF, wSetI, wApp, rangeA, List.append_eq, List.cons_append, List.nil_append, List.length_cons, List.length_nil, List.replicate, ↓reduceIte, Nat.reduceEqDiff, if_true, if_false, List.getElem?_cons_zero, List.getElem?_cons_succ, Int.toNat_zero, Int.toNat_one, Nat.reduceAdd, Nat.reduceSub, Int.toNat_natCast, Int.reduceToNat, band_nat, bor_nat, bxor_nat, bandn_nat, band_7, band_15, band_1, bor_0, shr_1, shr_2, shr_3, shr_4, shr_8, shr_16, shr_32, shl_1, shr_v]
      exact q
end Mine

namespace Mine
section
variable {O : Orc} {r : List S} {l : List AV} {H : Hp} {Q : Cont}
noncomputable abbrev Fx (G : Hp → Prop) (B : Tr) (x : Nat) (r : List AV) (Q : Cont) : Cont := fun fl l H => match fl with
  | .next => wFor G B x r l H Q
  | .cont => wFor G B x r l H Q
  | .brk => Q .next l H
  | .ret v => Q (.ret v) l H
theorem for_cons {G : Hp → Prop} {b : List S} {x : Nat} {v : AV} {vs : List AV} (g : G H) (h : wSs O b (lset l x v) H (Fx G (wSs O b) x vs Q)) : wFor G (wSs O b) x (v :: vs) l H Q := ⟨g, h⟩
theorem for_nil {G : Hp → Prop} {b : List S} {x : Nat} (g : G H) (h : Q .next l H) : wFor G (wSs O b) x [] l H Q := ⟨g, h⟩
theorem fx_next {G : Hp → Prop} {B : Tr} {x : Nat} {vs : List AV} (h : wFor G B x vs l H Q) : Fx G B x vs Q .next l H := h
theorem fx_ret {G : Hp → Prop} {B : Tr} {x : Nat} {vs : List AV} {v : AV} (h : Q (.ret v) l H) : Fx G B x vs Q (.ret v) l H := h
end
theorem rv04 : rangeVals 0 4 1 = [.int 0, .int 1, .int 2, .int 3] := rfl
theorem rv48 : rangeVals 4 8 1 = [.int 4, .int 5, .int 6, .int 7] := rfl
theorem rok (n : Nat) (h : n < 1000) : rangeOk 0 (n : Int) 1 := ⟨by decide, by omega, .inl rfl⟩
theorem body_rook : Body 2 3 5 b_rook_attacks W16 := by
  rintro args H Q ⟨f, r, s, occ, rfl, G, hs, q⟩
  refine ⟨rfl, ?_⟩
  unfold b_rook_attacks
  refine st_assign ?_
  simp only [wE, wEs, wT, wVar, lget, lset, wBin, binI, cmpA, cmpI, cmpB, truthA, wGetA, getF, wGetI, wSetA, putF, wSetI, wApp, rangeA, List.append_eq, List.cons_append, List.nil_append, List.length_cons, List.length_nil, List.replicate, ↓reduceIte, Nat.reduceEqDiff, if_true, if_false, List.getElem?_cons_zero, List.getElem?_cons_succ, Int.toNat_zero, Int.toNat_one, Nat.reduceAdd, Nat.reduceSub, Int.toNat_natCast, Int.reduceToNat, band_nat, bor_nat, bxor_nat, bandn_nat, band_7, band_15, band_1, bor_0, shr_1, shr_2, shr_3, shr_4, shr_8, shr_16, shr_32, shl_1, shr_v]
  refine st_forR ?_
  simp only [wE, wEs, wT, wVar, lget, lset, wBin, binI, cmpA, cmpI, cmpB, truthA, wGetA, getF, wGetI, wSetA, putF, wSetI, wApp, rangeA, List.append_eq, List.cons_append, List.nil_append, List.length_cons, List.length_nil, List.replicate, ↓reduceIte, Nat.reduceEqDiff, if_true, if_false, List.getElem?_cons_zero, List.getElem?_cons_succ, Int.toNat_zero, Int.toNat_one, Nat.reduceAdd, Nat.reduceSub, Int.toNat_natCast, Int.reduceToNat, band_nat, bor_nat, bxor_nat, bandn_nat, band_7, band_15, band_1, bor_0, shr_1, shr_2, shr_3, shr_4, shr_8, shr_16, shr_32, shl_1, shr_v, rv04]
  refine ⟨rok 4 (by decide), ?_⟩
  refine for_cons trivial (st_augN ?_)
  simp only [wE, wEs, wT, wVar, lget, lset, wBin, binI, cmpA, cmpI, cmpB, truthA, wGetA, getF, wGetI, wSetA, putF, wSetI, wApp, rangeA, List.append_eq, List.cons_append, List.nil_append, List.length_cons, List.length_nil, List.replicate, ↓reduceIte, Nat.reduceEqDiff, if_true, if_false, List.getElem?_cons_zero, List.getElem?_cons_succ, Int.toNat_zero, Int.toNat_one, Nat.reduceAdd, Nat.reduceSub, Int.toNat_natCast, Int.reduceToNat, band_nat, bor_nat, bxor_nat, bandn_nat, band_7, band_15, band_1, bor_0, shr_1, shr_2, shr_3, shr_4, shr_8, shr_16, shr_32, shl_1, shr_v]
  refine ⟨by decide, .inr ⟨f, r, 0, s, occ, rfl, G, by decide, hs, ?_⟩⟩
  simp only [wE, wEs, wT, wVar, lget, lset, wBin, binI, cmpA, cmpI, cmpB, truthA, wGetA, getF, wGetI, wSetA, putF, wSetI, wApp, rangeA, List.append_eq, List.cons_append, List.nil_append, List.length_cons, List.length_nil, List.replicate, ↓reduceIte, Nat.reduceEqDiff, if_true, if_false, List.getElem?_cons_zero, List.getElem?_cons_succ, Int.toNat_zero, Int.toNat_one, Nat.reduceAdd, Nat.reduceSub, Int.toNat_natCast, Int.reduceToNat, band_nat, bor_nat, bxor_nat, bandn_nat, band_7, band_15, band_1, bor_0, shr_1, shr_2, shr_3, shr_4, shr_8, shr_16, shr_32, shl_1, shr_v]
  refine st_nil (fx_next (for_cons trivial (st_augN ?_)))
  simp only [wE, wEs, wT, wVar, lget, lset, wBin, binI, cmpA, cmpI, cmpB, truthA, wGetA, getF, wGetI, wSetA, putF, wSetI, wApp, rangeA, List.append_eq, List.cons_append, List.nil_append, List.length_cons, List.length_nil, List.replicate, ↓reduceIte, Nat.reduceEqDiff, if_true, if_false, List.getElem?_cons_zero, List.getElem?_cons_succ, Int.toNat_zero, Int.toNat_one, Nat.reduceAdd, Nat.reduceSub, Int.toNat_natCast, Int.reduceToNat, band_nat, bor_nat, bxor_nat, bandn_nat, band_7, band_15, band_1, bor_0, shr_1, shr_2, shr_3, shr_4, shr_8, shr_16, shr_32, shl_1, shr_v]
  refine ⟨by decide, .inr ⟨f, r, 1, s, occ, rfl, G, by decide, hs, ?_⟩⟩
  simp only [wE, wEs, wT, wVar, lget, lset, wBin, binI, cmpA, cmpI, cmpB, truthA, wGetA, getF, wGetI, wSetA, putF, wSetI, wApp, rangeA, List.append_eq, List.cons_append, List.nil_append, List.length_cons, List.length_nil, List.replicate, ↓reduceIte, Nat.reduceEqDiff, if_true, if_false, List.getElem?_cons_zero, List.getElem?_cons_succ, Int.toNat_zero, Int.toNat_one, Nat.reduceAdd, Nat.reduceSub, Int.toNat_natCast, Int.reduceToNat, band_nat, bor_nat, bxor_nat, bandn_nat, band_7, band_15, band_1, bor_0, shr_1, shr_2, shr_3, shr_4, shr_8, shr_16, shr_32, shl_1, shr_v]
  refine st_nil (fx_next (for_cons trivial (st_augN ?_)))
  simp only [wE, wEs, wT, wVar, lget, lset, wBin, binI, cmpA, cmpI, cmpB, truthA, wGetA, getF, wGetI, wSetA, putF, wSetI, wApp, rangeA, List.append_eq, List.cons_append, List.nil_append, List.length_cons, List.length_nil, List.replicate, ↓reduceIte, Nat.reduceEqDiff, if_true, if_false, List.getElem?_cons_zero, List.getElem?_cons_succ, Int.toNat_zero, Int.toNat_one, Nat.reduceAdd, Nat.reduceSub, Int.toNat_natCast, Int.reduceToNat, band_nat, bor_nat, bxor_nat, bandn_nat, band_7, band_15, band_1, bor_0, shr_1, shr_2, shr_3, shr_4, shr_8, shr_16, shr_32, shl_1, shr_v]
  refine ⟨by decide, .inr ⟨f, r, 2, s, occ, rfl, G, by decide, hs, ?_⟩⟩
  simp only [wE, wEs, wT, wVar, lget, lset, wBin, binI, cmpA, cmpI, cmpB, truthA, wGetA, getF, wGetI, wSetA, putF, wSetI, wApp, rangeA, List.append_eq, List.cons_append, List.nil_append, List.length_cons, List.length_nil, List.replicate, ↓reduceIte, Nat.reduceEqDiff, if_true, if_false, List.getElem?_cons_zero, List.getElem?_cons_succ, Int.toNat_zero, Int.toNat_one, Nat.reduceAdd, Nat.reduceSub, Int.toNat_natCast, Int.reduceToNat, band_nat, bor_nat, bxor_nat, bandn_nat, band_7, band_15, band_1, bor_0, shr_1, shr_2, shr_3, shr_4, shr_8, shr_16, shr_32, shl_1, shr_v]
  refine st_nil (fx_next (for_cons trivial (st_augN ?_)))
  simp only [wE, wEs, wT, wVar, lget, lset, wBin, binI, cmpA, cmpI, cmpB, truthA, wGetA, getF, wGetI, wSetA, putF, wSetI, wApp, rangeA, List.append_eq, List.cons_append, List.nil_append, List.length_cons, List.length_nil, List.replicate, ↓reduceIte, Nat.reduceEqDiff, if_true, if_false, List.getElem?_cons_zero, List.getElem?_cons_succ, Int.toNat_zero, Int.toNat_one, Nat.reduceAdd, Nat.reduceSub, Int.toNat_natCast, Int.reduceToNat, band_nat, bor_nat, bxor_nat, bandn_nat, band_7, band_15, band_1, bor_0, shr_1, shr_2, shr_3, shr_4, shr_8, shr_16, shr_32, shl_1, shr_v]
  refine ⟨by decide, .inr ⟨f, r, 3, s, occ, rfl, G, by decide, hs, ?_⟩⟩
  simp only [wE, wEs, wT, wVar, lget, lset, wBin, binI, cmpA, cmpI, cmpB, truthA, wGetA, getF, wGetI, wSetA, putF, wSetI, wApp, rangeA, List.append_eq, List.cons_append, List.nil_append, List.length_cons, List.length_nil, List.replicate, ↓reduceIte, Nat.reduceEqDiff, if_true, if_false, List.getElem?_cons_zero, List.getElem?_cons_succ, Int.toNat_zero, Int.toNat_one, Nat.reduceAdd, Nat.reduceSub, Int.toNat_natCast, Int.reduceToNat, band_nat, bor_nat, bxor_nat, bandn_nat, band_7, band_15, band_1, bor_0, shr_1, shr_2, shr_3, shr_4, shr_8, shr_16, shr_32, shl_1, shr_v]
  refine st_nil (fx_next (for_nil trivial (nx_next (st_ret ?_))))
  simp only [wE, wEs, wT, wVar, lget, lset, wBin, binI, cmpA, cmpI, cmpB, truthA, wGetA, getF, wGetI, wSetA, putF, wSetI, wApp, rangeA, List.append_eq, List.cons_append, List.nil_append, List.length_cons, List.length_nil, List.replicate, ↓reduceIte, Nat.reduceEqDiff, if_true, if_false, List.getElem?_cons_zero, List.getElem?_cons_succ, Int.toNat_zero, Int.toNat_one, Nat.reduceAdd, Nat.reduceSub, Int.toNat_natCast, Int.reduceToNat, band_nat, bor_nat, bxor_nat, bandn_nat, band_7, band_15, band_1, bor_0, shr_1, shr_2, shr_3, shr_4, shr_8, shr_16, shr_32, shl_1, shr_v]
  exact q
theorem body_bishop : Body 2 3 5 b_bishop_attacks W17 := by
  rintro args H Q ⟨f, r, s, occ, rfl, G, hs, q⟩
  refine ⟨rfl, ?_⟩
  unfold b_bishop_attacks
  refine st_assign ?_
  simp only [wE, wEs, wT, wVar, lget, lset, wBin, binI, cmpA, cmpI, cmpB, truthA, wGetA, getF, wGetI, wSetA, putF, wSetI, wApp, rangeA, List.append_eq, List.cons_append, List.nil_append, List.length_cons, List.length_nil, List.replicate, ↓reduceIte, Nat.reduceEqDiff, if_true, if_false, List.getElem?_cons_zero, List.getElem?_cons_succ, Int.toNat_zero, Int.toNat_one, Nat.reduceAdd, Nat.reduceSub, Int.toNat_natCast, Int.reduceToNat, band_nat, bor_nat, bxor_nat, bandn_nat, band_7, band_15, band_1, bor_0, shr_1, shr_2, shr_3, shr_4, shr_8, shr_16, shr_32, shl_1, shr_v]
  refine st_forR ?_
  simp only [wE, wEs, wT, wVar, lget, lset, wBin, binI, cmpA, cmpI, cmpB, truthA, wGetA, getF, wGetI, wSetA, putF, wSetI, wApp, rangeA, List.append_eq, List.cons_append, List.nil_append, List.length_cons, List.length_nil, List.replicate, ↓reduceIte, Nat.reduceEqDiff, if_true, if_false, List.getElem?_cons_zero, List.getElem?_cons_succ, Int.toNat_zero, Int.toNat_one, Nat.reduceAdd, Nat.reduceSub, Int.toNat_natCast, Int.reduceToNat, band_nat, bor_nat, bxor_nat, bandn_nat, band_7, band_15, band_1, bor_0, shr_1, shr_2, shr_3, shr_4, shr_8, shr_16, shr_32, shl_1, shr_v, rv48]
  refine ⟨⟨by decide, by decide, .inl rfl⟩, ?_⟩
  refine for_cons trivial (st_augN ?_)
  simp only [wE, wEs, wT, wVar, lget, lset, wBin, binI, cmpA, cmpI, cmpB, truthA, wGetA, getF, wGetI, wSetA, putF, wSetI, wApp, rangeA, List.append_eq, List.cons_append, List.nil_append, List.length_cons, List.length_nil, List.replicate, ↓reduceIte, Nat.reduceEqDiff, if_true, if_false, List.getElem?_cons_zero, List.getElem?_cons_succ, Int.toNat_zero, Int.toNat_one, Nat.reduceAdd, Nat.reduceSub, Int.toNat_natCast, Int.reduceToNat, band_nat, bor_nat, bxor_nat, bandn_nat, band_7, band_15, band_1, bor_0, shr_1, shr_2, shr_3, shr_4, shr_8, shr_16, shr_32, shl_1, shr_v]
  refine ⟨by decide, .inr ⟨f, r, 4, s, occ, rfl, G, by decide, hs, ?_⟩⟩
  simp only [wE, wEs, wT, wVar, lget, lset, wBin, binI, cmpA, cmpI, cmpB, truthA, wGetA, getF, wGetI, wSetA, putF, wSetI, wApp, rangeA, List.append_eq, List.cons_append, List.nil_append, List.length_cons, List.length_nil, List.replicate, ↓reduceIte, Nat.reduceEqDiff, if_true, if_false, List.getElem?_cons_zero, List.getElem?_cons_succ, Int.toNat_zero, Int.toNat_one, Nat.reduceAdd, Nat.reduceSub, Int.toNat_natCast, Int.reduceToNat, band_nat, bor_nat, bxor_nat, bandn_nat, band_7, band_15, band_1, bor_0, shr_1, shr_2, shr_3, shr_4, shr_8, shr_16, shr_32, shl_1, shr_v]
  refine st_nil (fx_next (for_cons trivial (st_augN ?_)))
  simp only [wE, wEs, wT, wVar, lget, lset, wBin, binI, cmpA, cmpI, cmpB, truthA, wGetA, getF, wGetI, wSetA, putF, wSetI, wApp, rangeA, List.append_eq, List.cons_append, List.nil_append, List.length_cons, List.length_nil, List.replicate, ↓reduceIte, Nat.reduceEqDiff, if_true, if_false, List.getElem?_cons_zero, List.getElem?_cons_succ, Int.toNat_zero, Int.toNat_one, Nat.reduceAdd, Nat.reduceSub, Int.toNat_natCast, Int.reduceToNat, band_nat, bor_nat, bxor_nat, bandn_nat, band_7, band_15, band_1, bor_0, shr_1, shr_2, shr_3, shr_4, shr_8, shr_16, shr_32, shl_1, shr_v]
  refine ⟨by decide, .inr ⟨f, r, 5, s, occ, rfl, G, by decide, hs, ?_⟩⟩
  simp only [wE, wEs, wT, wVar, lget, lset, wBin, binI, cmpA, cmpI, cmpB, truthA, wGetA, getF, wGetI, wSetA, putF, wSetI, wApp, rangeA, List.append_eq, List.cons_append, List.nil_append, List.length_cons, List.length_nil, List.replicate, ↓reduceIte, Nat.reduceEqDiff, if_true, if_false, List.getElem?_cons_zero, List.getElem?_cons_succ, Int.toNat_zero, Int.toNat_one, Nat.reduceAdd, Nat.reduceSub, Int.toNat_natCast, Int.reduceToNat, band_nat, bor_nat, bxor_nat, bandn_nat, band_7, band_15, band_1, bor_0, shr_1, shr_2, shr_3, shr_4, shr_8, shr_16, shr_32, shl_1, shr_v]
  refine st_nil (fx_next (for_cons trivial (st_augN ?_)))
  simp only [wE, wEs, wT, wVar, lget, lset, wBin, binI, cmpA, cmpI, cmpB, truthA, wGetA, getF, wGetI, wSetA, putF, wSetI, wApp, rangeA, List.append_eq, List.cons_append, List.nil_append, List.length_cons, List.length_nil, List.replicate, ↓reduceIte, Nat.reduceEqDiff, if_true, if_false, List.getElem?_cons_zero, List.getElem?_cons_succ, Int.toNat_zero, Int.toNat_one, Nat.reduceAdd, Nat.reduceSub, Int.toNat_natCast, Int.reduceToNat, band_nat, bor_nat, bxor_nat, bandn_nat, band_7, band_15, band_1, bor_0, shr_1, shr_2, shr_3, shr_4, shr_8, shr_16, shr_32, shl_1, shr_v]
  refine ⟨by decide, .inr ⟨f, r, 6, s, occ, rfl, G, by decide, hs, ?_⟩⟩
  simp only [wE, wEs, wT, wVar, lget, lset, wBin, binI, cmpA, cmpI, cmpB, truthA, wGetA, getF, wGetI, wSetA, putF, wSetI, wApp, rangeA, List.append_eq, List.cons_append, List.nil_append, List.length_cons, List.length_nil, List.replicate, ↓reduceIte, Nat.reduceEqDiff, if_true, if_false, List.getElem?_cons_zero, List.getElem?_cons_succ, Int.toNat_zero, Int.toNat_one, Nat.reduceAdd, Nat.reduceSub, Int.toNat_natCast, Int.reduceToNat, band_nat, bor_nat, bxor_nat, bandn_nat, band_7, band_15, band_1, bor_0, shr_1, shr_2, shr_3, shr_4, shr_8, shr_16, shr_32, shl_1, shr_v]
  refine st_nil (fx_next (for_cons trivial (st_augN ?_)))
  simp only [wE, wEs, wT, wVar, lget, lset, wBin, binI, cmpA, cmpI, cmpB, truthA, wGetA, getF, wGetI, wSetA, putF, wSetI, wApp, rangeA, List.append_eq, List.cons_append, List.nil_append, List.length_cons, List.length_nil, List.replicate, ↓reduceIte, Nat.reduceEqDiff, if_true, if_false, List.getElem?_cons_zero, List.getElem?_cons_succ, Int.toNat_zero, Int.toNat_one, Nat.reduceAdd, Nat.reduceSub, Int.toNat_natCast, Int.reduceToNat, band_nat, bor_nat, bxor_nat, bandn_nat, band_7, band_15, band_1, bor_0, shr_1, shr_2, shr_3, shr_4, shr_8, shr_16, shr_32, shl_1, shr_v]
  refine ⟨by decide, .inr ⟨f, r, 7, s, occ, rfl, G, by decide, hs, ?_⟩⟩
  simp only [wE, wEs, wT, wVar, lget, lset, wBin, binI, cmpA, cmpI, cmpB, truthA, wGetA, getF, wGetI, wSetA, putF, wSetI, wApp, rangeA, List.append_eq, List.cons_append, List.nil_append, List.length_cons, List.length_nil, List.replicate, ↓reduceIte, Nat.reduceEqDiff, if_true, if_false, List.getElem?_cons_zero, List.getElem?_cons_succ, Int.toNat_zero, Int.toNat_one, Nat.reduceAdd, Nat.reduceSub, Int.toNat_natCast, Int.reduceToNat, band_nat, bor_nat, bxor_nat, bandn_nat, band_7, band_15, band_1, bor_0, shr_1, shr_2, shr_3, shr_4, shr_8, shr_16, shr_32, shl_1, shr_v]
  refine st_nil (fx_next (for_nil trivial (nx_next (st_ret ?_))))
  simp only [wE, wEs, wT, wVar, lget, lset, wBin, binI, cmpA, cmpI, cmpB, truthA, wGetA, getF, wGetI, wSetA, putF, wSetI, wApp, rangeA, List.append_eq, List.cons_append, List.nil_append, List.length_cons, List.length_nil, List.replicate, ↓reduceIte, Nat.reduceEqDiff, if_true, if_false, List.getElem?_cons_zero, List.getElem?_cons_succ, Int.toNat_zero, Int.toNat_one, Nat.reduceAdd, Nat.reduceSub, Int.toNat_natCast, Int.reduceToNat, band_nat, bor_nat, bxor_nat, bandn_nat, band_7, band_15, band_1, bor_0, shr_1, shr_2, shr_3, shr_4, shr_8, shr_16, shr_32, shl_1, shr_v]
  exact q
theorem body_queen : Body 3 3 3 b_queen_attacks W18 := by
  rintro args H Q ⟨f, r, s, occ, rfl, G, hs, q⟩
  refine ⟨rfl, ?_⟩
  unfold b_queen_attacks
  refine st_ret ?_
  simp only [wE, wEs, wT, wVar, lget, lset, wBin, binI, cmpA, cmpI, cmpB, truthA, wGetA, getF, wGetI, wSetA, putF, wSetI, wApp, rangeA, List.append_eq, List.cons_append, List.nil_append, List.length_cons, List.length_nil, List.replicate, ↓reduceIte, Nat.reduceEqDiff, if_true, if_false, List.getElem?_cons_zero, List.getElem?_cons_succ, Int.toNat_zero, Int.toNat_one, Nat.reduceAdd, Nat.reduceSub, Int.toNat_natCast, Int.reduceToNat, band_nat, bor_nat, bxor_nat, bandn_nat, band_7, band_15, band_1, bor_0, shr_1, shr_2, shr_3, shr_4, shr_8, shr_16, shr_32, shl_1, shr_v]
  refine ⟨by decide, .inr ⟨f, r, s, occ, rfl, G, hs, ?_⟩⟩
  refine ⟨by decide, .inr ⟨f, r, s, occ, rfl, G, hs, ?_⟩⟩
  simp only [wE, wEs, wT, wVar, lget, lset, wBin, binI, cmpA, cmpI, cmpB, truthA, wGetA, getF, wGetI, wSetA, putF, wSetI, wApp, rangeA, List.append_eq, List.cons_append, List.nil_append, List.length_cons, List.length_nil, List.replicate, ↓reduceIte, Nat.reduceEqDiff, if_true, if_false, List.getElem?_cons_zero, List.getElem?_cons_succ, Int.toNat_zero, Int.toNat_one, Nat.reduceAdd, Nat.reduceSub, Int.toNat_natCast, Int.reduceToNat, band_nat, bor_nat, bxor_nat, bandn_nat, band_7, band_15, band_1, bor_0, shr_1, shr_2, shr_3, shr_4, shr_8, shr_16, shr_32, shl_1, shr_v]
  exact q
theorem beq_nat (a b : Nat) : (((a : Int) == (b : Int)) : Bool) = decide (a = b) := by
  by_cases h : a = b
  · subst h; simp
  · have : (a : Int) ≠ b := by omega
    simp [h, this]
theorem body_slider : Body 4 4 4 b_slider_attacks W19 := by
  rintro args H Q ⟨f, r, k, s, occ, rfl, G, hs, q⟩
  refine ⟨rfl, ?_⟩
  unfold b_slider_attacks
  unfold sliderAtt at q
  refine st_ife ?_
  simp only [wE, wEs, wT, wVar, lget, lset, wBin, binI, cmpA, cmpI, cmpB, truthA, wGetA, getF, wGetI, wSetA, putF, wSetI, wApp, rangeA, List.append_eq, List.cons_append, List.nil_append, List.length_cons, List.length_nil, List.replicate, ↓reduceIte, Nat.reduceEqDiff, if_true, if_false, List.getElem?_cons_zero, List.getElem?_cons_succ, Int.toNat_zero, Int.toNat_one, Nat.reduceAdd, Nat.reduceSub, Int.toNat_natCast, Int.reduceToNat, band_nat, bor_nat, bxor_nat, bandn_nat, band_7, band_15, band_1, bor_0, shr_1, shr_2, shr_3, shr_4, shr_8, shr_16, shr_32, shl_1, shr_v]
  rw [show ((k : Int) == 3) = decide (k = 3) from beq_nat k 3]
  by_cases h3 : k = 3
  · simp only [h3, decide_true, if_true] at q ⊢
    refine st_ret ?_
    simp only [wE, wEs, wT, wVar, lget, lset, wBin, binI, cmpA, cmpI, cmpB, truthA, wGetA, getF, wGetI, wSetA, putF, wSetI, wApp, rangeA, List.append_eq, List.cons_append, List.nil_append, List.length_cons, List.length_nil, List.replicate, ↓reduceIte, Nat.reduceEqDiff, if_true, if_false, List.getElem?_cons_zero, List.getElem?_cons_succ, Int.toNat_zero, Int.toNat_one, Nat.reduceAdd, Nat.reduceSub, Int.toNat_natCast, Int.reduceToNat, band_nat, bor_nat, bxor_nat, bandn_nat, band_7, band_15, band_1, bor_0, shr_1, shr_2, shr_3, shr_4, shr_8, shr_16, shr_32, shl_1, shr_v]
    exact ⟨by decide, .inr ⟨f, r, s, occ, rfl, G, hs, q⟩⟩
  simp only [h3, decide_false, if_false] at q ⊢
  refine st_nil (nx_next (st_ife ?_))
  simp only [wE, wEs, wT, wVar, lget, lset, wBin, binI, cmpA, cmpI, cmpB, truthA, wGetA, getF, wGetI, wSetA, putF, wSetI, wApp, rangeA, List.append_eq, List.cons_append, List.nil_append, List.length_cons, List.length_nil, List.replicate, ↓reduceIte, Nat.reduceEqDiff, if_true, if_false, List.getElem?_cons_zero, List.getElem?_cons_succ, Int.toNat_zero, Int.toNat_one, Nat.reduceAdd, Nat.reduceSub, Int.toNat_natCast, Int.reduceToNat, band_nat, bor_nat, bxor_nat, bandn_nat, band_7, band_15, band_1, bor_0, shr_1, shr_2, shr_3, shr_4, shr_8, shr_16, shr_32, shl_1, shr_v]
  rw [show ((k : Int) == 4) = decide (k = 4) from beq_nat k 4]
  by_cases h4 : k = 4
  · simp only [h4, decide_true, if_true] at q ⊢
    refine st_ret ?_
    simp only [wE, wEs, wT, wVar, lget, lset, wBin, binI, cmpA, cmpI, cmpB, truthA, wGetA, getF, wGetI, wSetA, putF, wSetI, wApp, rangeA, List.append_eq, List.cons_append, List.nil_append, List.length_cons, List.length_nil, List.replicate, ↓reduceIte, Nat.reduceEqDiff, if_true, if_false, List.getElem?_cons_zero, List.getElem?_cons_succ, Int.toNat_zero, Int.toNat_one, Nat.reduceAdd, Nat.reduceSub, Int.toNat_natCast, Int.reduceToNat, band_nat, bor_nat, bxor_nat, bandn_nat, band_7, band_15, band_1, bor_0, shr_1, shr_2, shr_3, shr_4, shr_8, shr_16, shr_32, shl_1, shr_v]
    exact ⟨by decide, .inr ⟨f, r, s, occ, rfl, G, hs, q⟩⟩
  simp only [h4, decide_false, if_false] at q ⊢
  refine st_nil (nx_next (st_ife ?_))
  simp only [wE, wEs, wT, wVar, lget, lset, wBin, binI, cmpA, cmpI, cmpB, truthA, wGetA, getF, wGetI, wSetA, putF, wSetI, wApp, rangeA, List.append_eq, List.cons_append, List.nil_append, List.length_cons, List.length_nil, List.replicate, ↓reduceIte, Nat.reduceEqDiff, if_true, if_false, List.getElem?_cons_zero, List.getElem?_cons_succ, Int.toNat_zero, Int.toNat_one, Nat.reduceAdd, Nat.reduceSub, Int.toNat_natCast, Int.reduceToNat, band_nat, bor_nat, bxor_nat, bandn_nat, band_7, band_15, band_1, bor_0, shr_1, shr_2, shr_3, shr_4, shr_8, shr_16, shr_32, shl_1, shr_v]
  rw [show ((k : Int) == 5) = decide (k = 5) from beq_nat k 5]
  by_cases h5 : k = 5
  · simp only [h5, decide_true, if_true] at q ⊢
    refine st_ret ?_
    simp only [wE, wEs, wT, wVar, lget, lset, wBin, binI, cmpA, cmpI, cmpB, truthA, wGetA, getF, wGetI, wSetA, putF, wSetI, wApp, rangeA, List.append_eq, List.cons_append, List.nil_append, List.length_cons, List.length_nil, List.replicate, ↓reduceIte, Nat.reduceEqDiff, if_true, if_false, List.getElem?_cons_zero, List.getElem?_cons_succ, Int.toNat_zero, Int.toNat_one, Nat.reduceAdd, Nat.reduceSub, Int.toNat_natCast, Int.reduceToNat, band_nat, bor_nat, bxor_nat, bandn_nat, band_7, band_15, band_1, bor_0, shr_1, shr_2, shr_3, shr_4, shr_8, shr_16, shr_32, shl_1, shr_v]
    exact ⟨by decide, .inr ⟨f, r, s, occ, rfl, G, hs, q⟩⟩
  simp only [h5, decide_false, if_false] at q ⊢
  refine st_nil (nx_next (st_ret ?_))
  simp only [wE, wEs, wT, wVar, lget, lset, wBin, binI, cmpA, cmpI, cmpB, truthA, wGetA, getF, wGetI, wSetA, putF, wSetI, wApp, rangeA, List.append_eq, List.cons_append, List.nil_append, List.length_cons, List.length_nil, List.replicate, ↓reduceIte, Nat.reduceEqDiff, if_true, if_false, List.getElem?_cons_zero, List.getElem?_cons_succ, Int.toNat_zero, Int.toNat_one, Nat.reduceAdd, Nat.reduceSub, Int.toNat_natCast, Int.reduceToNat, band_nat, bor_nat, bxor_nat, bandn_nat, band_7, band_15, band_1, bor_0, shr_1, shr_2, shr_3, shr_4, shr_8, shr_16, shr_32, shl_1, shr_v]
  exact q
theorem pawn_ref {side : Nat} (h : side < 2) : ([AV.ref 9, .ref 10] : List AV)[side]? = some (.ref (9 + side)) := by
  match side, h with
  | 0, _ => rfl
  | 1, _ => rfl
  | n + 2, h => exact absurd h (by omega)
theorem GeoAt.pw {H : Hp} {f r side : Nat} (G : GeoAt H f r) (h : side < 2) : H[9 + side]? = some (.list (intsA (pawnT f r side))) := by
  match side, h with
  | 0, _ => exact G.p0
  | 1, _ => exact G.p1
  | n + 2, h => exact absurd h (by omega)
theorem body_piece : Body 5 5 5 b_piece_attacks W20 := by
  rintro args H Q ⟨f, r, side, k, s, occ, rfl, G, hside, hs, q⟩
  refine ⟨rfl, ?_⟩
  have hle := G.sz.le
  have e3 : (intsA (knightT f r))[s]? = some (.int (((knightT f r).getD s 0 : Nat) : Int)) := tabA_get hs
  have e4 : (intsA (kingT f r))[s]? = some (.int (((kingT f r).getD s 0 : Nat) : Int)) := tabA_get hs
  have e5 : (intsA (pawnT f r side))[s]? = some (.int (((pawnT f r side).getD s 0 : Nat) : Int)) := tabA_get hs
  unfold b_piece_attacks
  unfold pieceAtt at q
  refine st_ife ?_
  simp only [wE, wEs, wT, wVar, lget, lset, wBin, binI, cmpA, cmpI, cmpB, truthA, wGetA, getF, wGetI, wSetA, putF, wSetI, wApp, rangeA, List.append_eq, List.cons_append, List.nil_append, List.length_cons, List.length_nil, List.replicate, ↓reduceIte, Nat.reduceEqDiff, if_true, if_false, List.getElem?_cons_zero, List.getElem?_cons_succ, Int.toNat_zero, Int.toNat_one, Nat.reduceAdd, Nat.reduceSub, Int.toNat_natCast, Int.reduceToNat, band_nat, bor_nat, bxor_nat, bandn_nat, band_7, band_15, band_1, bor_0, shr_1, shr_2, shr_3, shr_4, shr_8, shr_16, shr_32, shl_1, shr_v]
  rw [show ((k : Int) == 1) = decide (k = 1) from beq_nat k 1]
  by_cases h3 : k = 1
  · simp only [h3, decide_true, if_true] at q ⊢
    refine st_ret ?_
    simp only [wE, wEs, wT, wVar, lget, lset, wBin, binI, cmpA, cmpI, cmpB, truthA, wGetA, getF, wGetI, wSetA, putF, wSetI, wApp, rangeA, List.append_eq, List.cons_append, List.nil_append, List.length_cons, List.length_nil, List.replicate, ↓reduceIte, Nat.reduceEqDiff, if_true, if_false, List.getElem?_cons_zero, List.getElem?_cons_succ, Int.toNat_zero, Int.toNat_one, Nat.reduceAdd, Nat.reduceSub, Int.toNat_natCast, Int.reduceToNat, band_nat, bor_nat, bxor_nat, bandn_nat, band_7, band_15, band_1, bor_0, shr_1, shr_2, shr_3, shr_4, shr_8, shr_16, shr_32, shl_1, shr_v, G.i, G.d, G.pawn, geoD, pawn_ref hside, G.pw hside, e5]
    exact ⟨by omega, by omega, q⟩
  simp only [h3, decide_false, if_false] at q ⊢
  refine st_nil (nx_next (st_ife ?_))
  simp only [wE, wEs, wT, wVar, lget, lset, wBin, binI, cmpA, cmpI, cmpB, truthA, wGetA, getF, wGetI, wSetA, putF, wSetI, wApp, rangeA, List.append_eq, List.cons_append, List.nil_append, List.length_cons, List.length_nil, List.replicate, ↓reduceIte, Nat.reduceEqDiff, if_true, if_false, List.getElem?_cons_zero, List.getElem?_cons_succ, Int.toNat_zero, Int.toNat_one, Nat.reduceAdd, Nat.reduceSub, Int.toNat_natCast, Int.reduceToNat, band_nat, bor_nat, bxor_nat, bandn_nat, band_7, band_15, band_1, bor_0, shr_1, shr_2, shr_3, shr_4, shr_8, shr_16, shr_32, shl_1, shr_v]
  rw [show ((k : Int) == 2) = decide (k = 2) from beq_nat k 2]
  by_cases h4 : k = 2
  · simp only [h4, decide_true, if_true] at q ⊢
    refine st_ret ?_
    simp only [wE, wEs, wT, wVar, lget, lset, wBin, binI, cmpA, cmpI, cmpB, truthA, wGetA, getF, wGetI, wSetA, putF, wSetI, wApp, rangeA, List.append_eq, List.cons_append, List.nil_append, List.length_cons, List.length_nil, List.replicate, ↓reduceIte, Nat.reduceEqDiff, if_true, if_false, List.getElem?_cons_zero, List.getElem?_cons_succ, Int.toNat_zero, Int.toNat_one, Nat.reduceAdd, Nat.reduceSub, Int.toNat_natCast, Int.reduceToNat, band_nat, bor_nat, bxor_nat, bandn_nat, band_7, band_15, band_1, bor_0, shr_1, shr_2, shr_3, shr_4, shr_8, shr_16, shr_32, shl_1, shr_v, G.i, G.d, G.knight, geoD, e3]
    exact ⟨by omega, q⟩
  simp only [h4, decide_false, if_false] at q ⊢
  refine st_nil (nx_next (st_ife ?_))
  simp only [wE, wEs, wT, wVar, lget, lset, wBin, binI, cmpA, cmpI, cmpB, truthA, wGetA, getF, wGetI, wSetA, putF, wSetI, wApp, rangeA, List.append_eq, List.cons_append, List.nil_append, List.length_cons, List.length_nil, List.replicate, ↓reduceIte, Nat.reduceEqDiff, if_true, if_false, List.getElem?_cons_zero, List.getElem?_cons_succ, Int.toNat_zero, Int.toNat_one, Nat.reduceAdd, Nat.reduceSub, Int.toNat_natCast, Int.reduceToNat, band_nat, bor_nat, bxor_nat, bandn_nat, band_7, band_15, band_1, bor_0, shr_1, shr_2, shr_3, shr_4, shr_8, shr_16, shr_32, shl_1, shr_v]
  rw [show ((k : Int) == 6) = decide (k = 6) from beq_nat k 6]
  by_cases h5 : k = 6
  · simp only [h5, decide_true, if_true] at q ⊢
    refine st_ret ?_
    simp only [wE, wEs, wT, wVar, lget, lset, wBin, binI, cmpA, cmpI, cmpB, truthA, wGetA, getF, wGetI, wSetA, putF, wSetI, wApp, rangeA, List.append_eq, List.cons_append, List.nil_append, List.length_cons, List.length_nil, List.replicate, ↓reduceIte, Nat.reduceEqDiff, if_true, if_false, List.getElem?_cons_zero, List.getElem?_cons_succ, Int.toNat_zero, Int.toNat_one, Nat.reduceAdd, Nat.reduceSub, Int.toNat_natCast, Int.reduceToNat, band_nat, bor_nat, bxor_nat, bandn_nat, band_7, band_15, band_1, bor_0, shr_1, shr_2, shr_3, shr_4, shr_8, shr_16, shr_32, shl_1, shr_v, G.i, G.d, G.king, geoD, e4]
    exact ⟨by omega, q⟩
  simp only [h5, decide_false, if_false] at q ⊢
  refine st_nil (nx_next (st_ret ?_))
  simp only [wE, wEs, wT, wVar, lget, lset, wBin, binI, cmpA, cmpI, cmpB, truthA, wGetA, getF, wGetI, wSetA, putF, wSetI, wApp, rangeA, List.append_eq, List.cons_append, List.nil_append, List.length_cons, List.length_nil, List.replicate, ↓reduceIte, Nat.reduceEqDiff, if_true, if_false, List.getElem?_cons_zero, List.getElem?_cons_succ, Int.toNat_zero, Int.toNat_one, Nat.reduceAdd, Nat.reduceSub, Int.toNat_natCast, Int.reduceToNat, band_nat, bor_nat, bxor_nat, bandn_nat, band_7, band_15, band_1, bor_0, shr_1, shr_2, shr_3, shr_4, shr_8, shr_16, shr_32, shl_1, shr_v]
  exact ⟨by decide, .inr ⟨f, r, k, s, occ, rfl, G, hs, q⟩⟩
theorem bz (n : Nat) : (((n : Int) != 0) : Bool) = (n != 0) := by
  by_cases h : n = 0
  · subst h; rfl
  · have : (n : Int) ≠ 0 := by omega
    rw [bne_iff_ne.mpr this, bne_iff_ne.mpr h]
theorem body_line : Body 3 3 6 b_line_attackers W32 := by
  rintro args H Q ⟨f, r, a, B, s, occ, rfl, ⟨G, P, K⟩, hs, q⟩
  refine ⟨rfl, ?_⟩
  unfold b_line_attackers
  refine st_assign ?_
  simp only [wE, wEs, wT, wVar, lget, lset, wBin, binI, cmpA, cmpI, cmpB, truthA, wGetA, getF, wGetI, wSetA, putF, wSetI, wApp, rangeA, List.append_eq, List.cons_append, List.nil_append, List.length_cons, List.length_nil, List.replicate, ↓reduceIte, Nat.reduceEqDiff, if_true, if_false, List.getElem?_cons_zero, List.getElem?_cons_succ, Int.toNat_zero, Int.toNat_one, Nat.reduceAdd, Nat.reduceSub, Int.toNat_natCast, Int.reduceToNat, band_nat, bor_nat, bxor_nat, bandn_nat, band_7, band_15, band_1, bor_0, shr_1, shr_2, shr_3, shr_4, shr_8, shr_16, shr_32, shl_1, shr_v]
  refine st_assign ?_
  simp only [wE, wEs, wT, wVar, lget, lset, wBin, binI, cmpA, cmpI, cmpB, truthA, wGetA, getF, wGetI, wSetA, putF, wSetI, wApp, rangeA, List.append_eq, List.cons_append, List.nil_append, List.length_cons, List.length_nil, List.replicate, ↓reduceIte, Nat.reduceEqDiff, if_true, if_false, List.getElem?_cons_zero, List.getElem?_cons_succ, Int.toNat_zero, Int.toNat_one, Nat.reduceAdd, Nat.reduceSub, Int.toNat_natCast, Int.reduceToNat, band_nat, bor_nat, bxor_nat, bandn_nat, band_7, band_15, band_1, bor_0, shr_1, shr_2, shr_3, shr_4, shr_8, shr_16, shr_32, shl_1, shr_v]
  refine ⟨by decide, .inr ⟨a, B, rfl, P, K.kl, ?_⟩⟩
  refine st_ife ?_
  simp only [wE, wEs, wT, wVar, lget, lset, wBin, binI, cmpA, cmpI, cmpB, truthA, wGetA, getF, wGetI, wSetA, putF, wSetI, wApp, rangeA, List.append_eq, List.cons_append, List.nil_append, List.length_cons, List.length_nil, List.replicate, ↓reduceIte, Nat.reduceEqDiff, if_true, if_false, List.getElem?_cons_zero, List.getElem?_cons_succ, Int.toNat_zero, Int.toNat_one, Nat.reduceAdd, Nat.reduceSub, Int.toNat_natCast, Int.reduceToNat, band_nat, bor_nat, bxor_nat, bandn_nat, band_7, band_15, band_1, bor_0, shr_1, shr_2, shr_3, shr_4, shr_8, shr_16, shr_32, shl_1, shr_v, bz]
  have fin : ∀ z : Nat, z = (rookAtt f r s occ &&& straightB B) → wSs (Oo 3) [.assign 5 (.call 29 [(.var 0)]),
      .ife (.var 5) [.augN 3 .BitOr (.bin .BitAnd (.call 17 [(.attr (.var 0) 14), (.var 1), (.var 2)]) (.var 5))] [], .ret (.var 3)] [.ref a.p, .int s, .int occ, .int z, .int (straightB B : Nat), .undef] H (fun fl _ H' => Q (retOf fl) H') := by
    intro z hz
    refine st_assign ?_
    simp only [wE, wEs, wT, wVar, lget, lset, wBin, binI, cmpA, cmpI, cmpB, truthA, wGetA, getF, wGetI, wSetA, putF, wSetI, wApp, rangeA, List.append_eq, List.cons_append, List.nil_append, List.length_cons, List.length_nil, List.replicate, ↓reduceIte, Nat.reduceEqDiff, if_true, if_false, List.getElem?_cons_zero, List.getElem?_cons_succ, Int.toNat_zero, Int.toNat_one, Nat.reduceAdd, Nat.reduceSub, Int.toNat_natCast, Int.reduceToNat, band_nat, bor_nat, bxor_nat, bandn_nat, band_7, band_15, band_1, bor_0, shr_1, shr_2, shr_3, shr_4, shr_8, shr_16, shr_32, shl_1, shr_v]
    refine ⟨by decide, .inr ⟨a, B, rfl, P, K.kl, ?_⟩⟩
    refine st_ife ?_
    simp only [wE, wEs, wT, wVar, lget, lset, wBin, binI, cmpA, cmpI, cmpB, truthA, wGetA, getF, wGetI, wSetA, putF, wSetI, wApp, rangeA, List.append_eq, List.cons_append, List.nil_append, List.length_cons, List.length_nil, List.replicate, ↓reduceIte, Nat.reduceEqDiff, if_true, if_false, List.getElem?_cons_zero, List.getElem?_cons_succ, Int.toNat_zero, Int.toNat_one, Nat.reduceAdd, Nat.reduceSub, Int.toNat_natCast, Int.reduceToNat, band_nat, bor_nat, bxor_nat, bandn_nat, band_7, band_15, band_1, bor_0, shr_1, shr_2, shr_3, shr_4, shr_8, shr_16, shr_32, shl_1, shr_v, bz]
    by_cases h : slantB B = 0
    · simp only [h, bne_self_eq_false]
      refine st_nil (nx_next (st_ret ?_))
      simp only [wE, wEs, wT, wVar, lget, lset, wBin, binI, cmpA, cmpI, cmpB, truthA, wGetA, getF, wGetI, wSetA, putF, wSetI, wApp, rangeA, List.append_eq, List.cons_append, List.nil_append, List.length_cons, List.length_nil, List.replicate, ↓reduceIte, Nat.reduceEqDiff, if_true, if_false, List.getElem?_cons_zero, List.getElem?_cons_succ, Int.toNat_zero, Int.toNat_one, Nat.reduceAdd, Nat.reduceSub, Int.toNat_natCast, Int.reduceToNat, band_nat, bor_nat, bxor_nat, bandn_nat, band_7, band_15, band_1, bor_0, shr_1, shr_2, shr_3, shr_4, shr_8, shr_16, shr_32, shl_1, shr_v]
      simpa [lineAtk, h, hz, retOf] using q
    · simp only [bne_iff_ne.mpr h]
      refine st_augN ?_
      simp only [wE, wEs, wT, wVar, lget, lset, wBin, binI, cmpA, cmpI, cmpB, truthA, wGetA, getF, wGetI, wSetA, putF, wSetI, wApp, rangeA, List.append_eq, List.cons_append, List.nil_append, List.length_cons, List.length_nil, List.replicate, ↓reduceIte, Nat.reduceEqDiff, if_true, if_false, List.getElem?_cons_zero, List.getElem?_cons_succ, Int.toNat_zero, Int.toNat_one, Nat.reduceAdd, Nat.reduceSub, Int.toNat_natCast, Int.reduceToNat, band_nat, bor_nat, bxor_nat, bandn_nat, band_7, band_15, band_1, bor_0, shr_1, shr_2, shr_3, shr_4, shr_8, shr_16, shr_32, shl_1, shr_v, P.i, P.d, posD]
      refine ⟨by decide, .inr ⟨f, r, s, occ, rfl, G, hs, ?_⟩⟩
      simp only [wE, wEs, wT, wVar, lget, lset, wBin, binI, cmpA, cmpI, cmpB, truthA, wGetA, getF, wGetI, wSetA, putF, wSetI, wApp, rangeA, List.append_eq, List.cons_append, List.nil_append, List.length_cons, List.length_nil, List.replicate, ↓reduceIte, Nat.reduceEqDiff, if_true, if_false, List.getElem?_cons_zero, List.getElem?_cons_succ, Int.toNat_zero, Int.toNat_one, Nat.reduceAdd, Nat.reduceSub, Int.toNat_natCast, Int.reduceToNat, band_nat, bor_nat, bxor_nat, bandn_nat, band_7, band_15, band_1, bor_0, shr_1, shr_2, shr_3, shr_4, shr_8, shr_16, shr_32, shl_1, shr_v]
      refine st_nil (nx_next (st_ret ?_))
      simp only [wE, wEs, wT, wVar, lget, lset, wBin, binI, cmpA, cmpI, cmpB, truthA, wGetA, getF, wGetI, wSetA, putF, wSetI, wApp, rangeA, List.append_eq, List.cons_append, List.nil_append, List.length_cons, List.length_nil, List.replicate, ↓reduceIte, Nat.reduceEqDiff, if_true, if_false, List.getElem?_cons_zero, List.getElem?_cons_succ, Int.toNat_zero, Int.toNat_one, Nat.reduceAdd, Nat.reduceSub, Int.toNat_natCast, Int.reduceToNat, band_nat, bor_nat, bxor_nat, bandn_nat, band_7, band_15, band_1, bor_0, shr_1, shr_2, shr_3, shr_4, shr_8, shr_16, shr_32, shl_1, shr_v, hz]
      exact q
  by_cases h : straightB B = 0
  · simp only [h, bne_self_eq_false]
    refine st_nil (nx_next ?_)
    have := fin 0 (by simp [h])
    rw [h] at this
    exact this
  · simp only [bne_iff_ne.mpr h]
    refine st_augN ?_
    simp only [wE, wEs, wT, wVar, lget, lset, wBin, binI, cmpA, cmpI, cmpB, truthA, wGetA, getF, wGetI, wSetA, putF, wSetI, wApp, rangeA, List.append_eq, List.cons_append, List.nil_append, List.length_cons, List.length_nil, List.replicate, ↓reduceIte, Nat.reduceEqDiff, if_true, if_false, List.getElem?_cons_zero, List.getElem?_cons_succ, Int.toNat_zero, Int.toNat_one, Nat.reduceAdd, Nat.reduceSub, Int.toNat_natCast, Int.reduceToNat, band_nat, bor_nat, bxor_nat, bandn_nat, band_7, band_15, band_1, bor_0, shr_1, shr_2, shr_3, shr_4, shr_8, shr_16, shr_32, shl_1, shr_v, P.i, P.d, posD]
    refine ⟨by decide, .inr ⟨f, r, s, occ, rfl, G, hs, ?_⟩⟩
    simp only [wE, wEs, wT, wVar, lget, lset, wBin, binI, cmpA, cmpI, cmpB, truthA, wGetA, getF, wGetI, wSetA, putF, wSetI, wApp, rangeA, List.append_eq, List.cons_append, List.nil_append, List.length_cons, List.length_nil, List.replicate, ↓reduceIte, Nat.reduceEqDiff, if_true, if_false, List.getElem?_cons_zero, List.getElem?_cons_succ, Int.toNat_zero, Int.toNat_one, Nat.reduceAdd, Nat.reduceSub, Int.toNat_natCast, Int.reduceToNat, band_nat, bor_nat, bxor_nat, bandn_nat, band_7, band_15, band_1, bor_0, shr_1, shr_2, shr_3, shr_4, shr_8, shr_16, shr_32, shl_1, shr_v, Nat.zero_or]
    exact st_nil (nx_next (fin _ rfl))
theorem body_attackers_to : Body 4 3 4 b_attackers_to W33 := by
  rintro args H Q ⟨f, r, a, B, s, occ, rfl, GP, hs, q⟩
  refine ⟨rfl, ?_⟩
  unfold b_attackers_to
  refine st_assign ?_
  simp only [wE, wEs, wT, wVar, lget, lset, wBin, binI, cmpA, cmpI, cmpB, truthA, wGetA, getF, wGetI, wSetA, putF, wSetI, wApp, rangeA, List.append_eq, List.cons_append, List.nil_append, List.length_cons, List.length_nil, List.replicate, ↓reduceIte, Nat.reduceEqDiff, if_true, if_false, List.getElem?_cons_zero, List.getElem?_cons_succ, Int.toNat_zero, Int.toNat_one, Nat.reduceAdd, Nat.reduceSub, Int.toNat_natCast, Int.reduceToNat, band_nat, bor_nat, bxor_nat, bandn_nat, band_7, band_15, band_1, bor_0, shr_1, shr_2, shr_3, shr_4, shr_8, shr_16, shr_32, shl_1, shr_v]
  refine ⟨by decide, .inr ⟨f, r, a, B, s, 0, rfl, GP, hs, by decide, ?_⟩⟩
  refine ⟨by decide, .inr ⟨f, r, a, B, s, 1, rfl, GP, hs, by decide, ?_⟩⟩
  simp only [wE, wEs, wT, wVar, lget, lset, wBin, binI, cmpA, cmpI, cmpB, truthA, wGetA, getF, wGetI, wSetA, putF, wSetI, wApp, rangeA, List.append_eq, List.cons_append, List.nil_append, List.length_cons, List.length_nil, List.replicate, ↓reduceIte, Nat.reduceEqDiff, if_true, if_false, List.getElem?_cons_zero, List.getElem?_cons_succ, Int.toNat_zero, Int.toNat_one, Nat.reduceAdd, Nat.reduceSub, Int.toNat_natCast, Int.reduceToNat, band_nat, bor_nat, bxor_nat, bandn_nat, band_7, band_15, band_1, bor_0, shr_1, shr_2, shr_3, shr_4, shr_8, shr_16, shr_32, shl_1, shr_v]
  refine st_ret ?_
  simp only [wE, wEs, wT, wVar, lget, lset, wBin, binI, cmpA, cmpI, cmpB, truthA, wGetA, getF, wGetI, wSetA, putF, wSetI, wApp, rangeA, List.append_eq, List.cons_append, List.nil_append, List.length_cons, List.length_nil, List.replicate, ↓reduceIte, Nat.reduceEqDiff, if_true, if_false, List.getElem?_cons_zero, List.getElem?_cons_succ, Int.toNat_zero, Int.toNat_one, Nat.reduceAdd, Nat.reduceSub, Int.toNat_natCast, Int.reduceToNat, band_nat, bor_nat, bxor_nat, bandn_nat, band_7, band_15, band_1, bor_0, shr_1, shr_2, shr_3, shr_4, shr_8, shr_16, shr_32, shl_1, shr_v]
  refine ⟨by decide, .inr ⟨f, r, a, B, s, occ, rfl, GP, hs, ?_⟩⟩
  simp only [wE, wEs, wT, wVar, lget, lset, wBin, binI, cmpA, cmpI, cmpB, truthA, wGetA, getF, wGetI, wSetA, putF, wSetI, wApp, rangeA, List.append_eq, List.cons_append, List.nil_append, List.length_cons, List.length_nil, List.replicate, ↓reduceIte, Nat.reduceEqDiff, if_true, if_false, List.getElem?_cons_zero, List.getElem?_cons_succ, Int.toNat_zero, Int.toNat_one, Nat.reduceAdd, Nat.reduceSub, Int.toNat_natCast, Int.reduceToNat, band_nat, bor_nat, bxor_nat, bandn_nat, band_7, band_15, band_1, bor_0, shr_1, shr_2, shr_3, shr_4, shr_8, shr_16, shr_32, shl_1, shr_v]
  exact q
theorem body_checkers_of : Body 5 2 3 b_checkers_of W35 := by
  rintro args H Q ⟨f, r, a, B, side, k, rfl, GP, hside, hk, q⟩
  refine ⟨rfl, ?_⟩
  have P := GP.2.1
  have hle := GP.2.2.sz.le
  have e0 := sd_get (B := B) (side := 0) (by decide)
  have e1 := sd_get (B := B) (side := 1) (by decide)
  have e2 := sd_get (B := B) (side := 1 - side) (by omega)
  unfold b_checkers_of
  refine st_assign ?_
  simp only [wE, wEs, wT, wVar, lget, lset, wBin, binI, cmpA, cmpI, cmpB, truthA, wGetA, getF, wGetI, wSetA, putF, wSetI, wApp, rangeA, List.append_eq, List.cons_append, List.nil_append, List.length_cons, List.length_nil, List.replicate, ↓reduceIte, Nat.reduceEqDiff, if_true, if_false, List.getElem?_cons_zero, List.getElem?_cons_succ, Int.toNat_zero, Int.toNat_one, Nat.reduceAdd, Nat.reduceSub, Int.toNat_natCast, Int.reduceToNat, band_nat, bor_nat, bxor_nat, bandn_nat, band_7, band_15, band_1, bor_0, shr_1, shr_2, shr_3, shr_4, shr_8, shr_16, shr_32, shl_1, shr_v, P.i, P.d, P.si, posD, e0, e1]
  refine ⟨by omega, by omega, st_ret ?_⟩
  simp only [wE, wEs, wT, wVar, lget, lset, wBin, binI, cmpA, cmpI, cmpB, truthA, wGetA, getF, wGetI, wSetA, putF, wSetI, wApp, rangeA, List.append_eq, List.cons_append, List.nil_append, List.length_cons, List.length_nil, List.replicate, ↓reduceIte, Nat.reduceEqDiff, if_true, if_false, List.getElem?_cons_zero, List.getElem?_cons_succ, Int.toNat_zero, Int.toNat_one, Nat.reduceAdd, Nat.reduceSub, Int.toNat_natCast, Int.reduceToNat, band_nat, bor_nat, bxor_nat, bandn_nat, band_7, band_15, band_1, bor_0, shr_1, shr_2, shr_3, shr_4, shr_8, shr_16, shr_32, shl_1, shr_v]
  refine ⟨by decide, .inr ⟨a, B, side, k, rfl, P, GP.2.2.kl, hside, by have := hk.1; omega, hk.2, ?_⟩⟩
  refine ⟨by decide, .inr ⟨f, r, a, B, k, B.occ, rfl, GP, hk.1, ?_⟩⟩
  simp only [wE, wEs, wT, wVar, lget, lset, wBin, binI, cmpA, cmpI, cmpB, truthA, wGetA, getF, wGetI, wSetA, putF, wSetI, wApp, rangeA, List.append_eq, List.cons_append, List.nil_append, List.length_cons, List.length_nil, List.replicate, ↓reduceIte, Nat.reduceEqDiff, if_true, if_false, List.getElem?_cons_zero, List.getElem?_cons_succ, Int.toNat_zero, Int.toNat_one, Nat.reduceAdd, Nat.reduceSub, Int.toNat_natCast, Int.reduceToNat, band_nat, bor_nat, bxor_nat, bandn_nat, band_7, band_15, band_1, bor_0, shr_1, shr_2, shr_3, shr_4, shr_8, shr_16, shr_32, shl_1, shr_v, P.i, P.d, P.si, posD, sub_side hside, e2]
  exact ⟨by omega, q⟩
theorem body_checkers : Body 6 1 1 b_checkers W36 := by
  rintro args H Q ⟨f, r, a, B, k, rfl, GP, hk, q⟩
  refine ⟨rfl, ?_⟩
  have P := GP.2.1
  unfold b_checkers
  refine st_ret ?_
  simp only [wE, wEs, wT, wVar, lget, lset, wBin, binI, cmpA, cmpI, cmpB, truthA, wGetA, getF, wGetI, wSetA, putF, wSetI, wApp, rangeA, List.append_eq, List.cons_append, List.nil_append, List.length_cons, List.length_nil, List.replicate, ↓reduceIte, Nat.reduceEqDiff, if_true, if_false, List.getElem?_cons_zero, List.getElem?_cons_succ, Int.toNat_zero, Int.toNat_one, Nat.reduceAdd, Nat.reduceSub, Int.toNat_natCast, Int.reduceToNat, band_nat, bor_nat, bxor_nat, bandn_nat, band_7, band_15, band_1, bor_0, shr_1, shr_2, shr_3, shr_4, shr_8, shr_16, shr_32, shl_1, shr_v, P.i, P.d, posD]
  exact ⟨by decide, .inr ⟨f, r, a, B, B.side, k, rfl, GP, GP.2.2.side, hk, q⟩⟩
theorem body_in_check_of : Body 4 2 3 b_in_check_of W37 := by
  rintro args H Q ⟨f, r, a, B, side, k, rfl, GP, hside, hk, q⟩
  refine ⟨rfl, ?_⟩
  have P := GP.2.1
  have hle := GP.2.2.sz.le
  have e0 := sd_get (B := B) (side := 0) (by decide)
  have e1 := sd_get (B := B) (side := 1) (by decide)
  unfold b_in_check_of
  refine st_assign ?_
  simp only [wE, wEs, wT, wVar, lget, lset, wBin, binI, cmpA, cmpI, cmpB, truthA, wGetA, getF, wGetI, wSetA, putF, wSetI, wApp, rangeA, List.append_eq, List.cons_append, List.nil_append, List.length_cons, List.length_nil, List.replicate, ↓reduceIte, Nat.reduceEqDiff, if_true, if_false, List.getElem?_cons_zero, List.getElem?_cons_succ, Int.toNat_zero, Int.toNat_one, Nat.reduceAdd, Nat.reduceSub, Int.toNat_natCast, Int.reduceToNat, band_nat, bor_nat, bxor_nat, bandn_nat, band_7, band_15, band_1, bor_0, shr_1, shr_2, shr_3, shr_4, shr_8, shr_16, shr_32, shl_1, shr_v, P.i, P.d, P.si, posD, e0, e1]
  refine ⟨by omega, by omega, st_ret ?_⟩
  simp only [wE, wEs, wT, wVar, lget, lset, wBin, binI, cmpA, cmpI, cmpB, truthA, wGetA, getF, wGetI, wSetA, putF, wSetI, wApp, rangeA, List.append_eq, List.cons_append, List.nil_append, List.length_cons, List.length_nil, List.replicate, ↓reduceIte, Nat.reduceEqDiff, if_true, if_false, List.getElem?_cons_zero, List.getElem?_cons_succ, Int.toNat_zero, Int.toNat_one, Nat.reduceAdd, Nat.reduceSub, Int.toNat_natCast, Int.reduceToNat, band_nat, bor_nat, bxor_nat, bandn_nat, band_7, band_15, band_1, bor_0, shr_1, shr_2, shr_3, shr_4, shr_8, shr_16, shr_32, shl_1, shr_v]
  refine ⟨by decide, .inr ⟨a, B, side, k, rfl, P, GP.2.2.kl, hside, by have := hk.1; omega, hk.2, ?_⟩⟩
  simp only [wE, wEs, wT, wVar, lget, lset, wBin, binI, cmpA, cmpI, cmpB, truthA, wGetA, getF, wGetI, wSetA, putF, wSetI, wApp, rangeA, List.append_eq, List.cons_append, List.nil_append, List.length_cons, List.length_nil, List.replicate, ↓reduceIte, Nat.reduceEqDiff, if_true, if_false, List.getElem?_cons_zero, List.getElem?_cons_succ, Int.toNat_zero, Int.toNat_one, Nat.reduceAdd, Nat.reduceSub, Int.toNat_natCast, Int.reduceToNat, band_nat, bor_nat, bxor_nat, bandn_nat, band_7, band_15, band_1, bor_0, shr_1, shr_2, shr_3, shr_4, shr_8, shr_16, shr_32, shl_1, shr_v, sub_side hside]
  exact ⟨by decide, .inr ⟨f, r, a, B, k, 1 - side, B.occ, rfl, GP, hk.1, by omega, q⟩⟩
theorem body_in_check : Body 5 1 1 b_in_check W38 := by
  rintro args H Q ⟨f, r, a, B, k, rfl, GP, hk, q⟩
  refine ⟨rfl, ?_⟩
  have P := GP.2.1
  unfold b_in_check
  refine st_ret ?_
  simp only [wE, wEs, wT, wVar, lget, lset, wBin, binI, cmpA, cmpI, cmpB, truthA, wGetA, getF, wGetI, wSetA, putF, wSetI, wApp, rangeA, List.append_eq, List.cons_append, List.nil_append, List.length_cons, List.length_nil, List.replicate, ↓reduceIte, Nat.reduceEqDiff, if_true, if_false, List.getElem?_cons_zero, List.getElem?_cons_succ, Int.toNat_zero, Int.toNat_one, Nat.reduceAdd, Nat.reduceSub, Int.toNat_natCast, Int.reduceToNat, band_nat, bor_nat, bxor_nat, bandn_nat, band_7, band_15, band_1, bor_0, shr_1, shr_2, shr_3, shr_4, shr_8, shr_16, shr_32, shl_1, shr_v, P.i, P.d, posD]
  exact ⟨by decide, .inr ⟨f, r, a, B, B.side, k, rfl, GP, GP.2.2.side, hk, q⟩⟩
theorem body_attacked_by : Body 7 2 2 b_attacked_by W40 := by
  rintro args H Q ⟨f, r, a, B, side, rfl, GP, hside, q⟩
  refine ⟨rfl, ?_⟩
  have P := GP.2.1
  have e0 := sd_get (B := B) (side := 0) (by decide)
  have e1 := sd_get (B := B) (side := 1) (by decide)
  unfold b_attacked_by
  refine st_ret ?_
  simp only [wE, wEs, wT, wVar, lget, lset, wBin, binI, cmpA, cmpI, cmpB, truthA, wGetA, getF, wGetI, wSetA, putF, wSetI, wApp, rangeA, List.append_eq, List.cons_append, List.nil_append, List.length_cons, List.length_nil, List.replicate, ↓reduceIte, Nat.reduceEqDiff, if_true, if_false, List.getElem?_cons_zero, List.getElem?_cons_succ, Int.toNat_zero, Int.toNat_one, Nat.reduceAdd, Nat.reduceSub, Int.toNat_natCast, Int.reduceToNat, band_nat, bor_nat, bxor_nat, bandn_nat, band_7, band_15, band_1, bor_0, shr_1, shr_2, shr_3, shr_4, shr_8, shr_16, shr_32, shl_1, shr_v, P.i, P.d, P.si, posD, e0, e1]
  exact ⟨by omega, by omega, ⟨by decide, .inr ⟨f, r, a, B, side, B.occ, rfl, GP, hside, q⟩⟩⟩
theorem body_forbidden : Body 7 2 3 b_forbidden_to_king W41 := by
  rintro args H Q ⟨f, r, a, B, side, k, rfl, GP, hside, hk, q⟩
  refine ⟨rfl, ?_⟩
  have P := GP.2.1
  have hle := GP.2.2.sz.le
  have hk1 := hk.1
  have e0 := sd_get (B := B) (side := 0) (by decide)
  have e1 := sd_get (B := B) (side := 1) (by decide)
  unfold b_forbidden_to_king
  refine st_assign ?_
  simp only [wE, wEs, wT, wVar, lget, lset, wBin, binI, cmpA, cmpI, cmpB, truthA, wGetA, getF, wGetI, wSetA, putF, wSetI, wApp, rangeA, List.append_eq, List.cons_append, List.nil_append, List.length_cons, List.length_nil, List.replicate, ↓reduceIte, Nat.reduceEqDiff, if_true, if_false, List.getElem?_cons_zero, List.getElem?_cons_succ, Int.toNat_zero, Int.toNat_one, Nat.reduceAdd, Nat.reduceSub, Int.toNat_natCast, Int.reduceToNat, band_nat, bor_nat, bxor_nat, bandn_nat, band_7, band_15, band_1, bor_0, shr_1, shr_2, shr_3, shr_4, shr_8, shr_16, shr_32, shl_1, shr_v, P.i, P.d, P.si, posD, e0, e1]
  refine ⟨by omega, by omega, st_ret ?_⟩
  simp only [wE, wEs, wT, wVar, lget, lset, wBin, binI, cmpA, cmpI, cmpB, truthA, wGetA, getF, wGetI, wSetA, putF, wSetI, wApp, rangeA, List.append_eq, List.cons_append, List.nil_append, List.length_cons, List.length_nil, List.replicate, ↓reduceIte, Nat.reduceEqDiff, if_true, if_false, List.getElem?_cons_zero, List.getElem?_cons_succ, Int.toNat_zero, Int.toNat_one, Nat.reduceAdd, Nat.reduceSub, Int.toNat_natCast, Int.reduceToNat, band_nat, bor_nat, bxor_nat, bandn_nat, band_7, band_15, band_1, bor_0, shr_1, shr_2, shr_3, shr_4, shr_8, shr_16, shr_32, shl_1, shr_v, sub_side hside]
  refine ⟨by decide, .inr ⟨a, B, side, k, rfl, P, GP.2.2.kl, hside, by omega, hk.2, ?_⟩⟩
  simp only [wE, wEs, wT, wVar, lget, lset, wBin, binI, cmpA, cmpI, cmpB, truthA, wGetA, getF, wGetI, wSetA, putF, wSetI, wApp, rangeA, List.append_eq, List.cons_append, List.nil_append, List.length_cons, List.length_nil, List.replicate, ↓reduceIte, Nat.reduceEqDiff, if_true, if_false, List.getElem?_cons_zero, List.getElem?_cons_succ, Int.toNat_zero, Int.toNat_one, Nat.reduceAdd, Nat.reduceSub, Int.toNat_natCast, Int.reduceToNat, band_nat, bor_nat, bxor_nat, bandn_nat, band_7, band_15, band_1, bor_0, shr_1, shr_2, shr_3, shr_4, shr_8, shr_16, shr_32, shl_1, shr_v]
  refine ⟨⟨by omega, by omega, by decide⟩, ?_⟩
  exact ⟨by decide, .inr ⟨f, r, a, B, 1 - side, B.occ ^^^ 1 <<< k, rfl, GP, by omega, q⟩⟩
theorem body_king_flights : Body 8 1 3 b_king_flights W42 := by
  rintro args H Q ⟨f, r, a, B, k, rfl, GP, hk, q⟩
  refine ⟨rfl, ?_⟩
  have P := GP.2.1
  have G := GP.1
  have K := GP.2.2
  have hside := K.side
  have hle := GP.2.2.sz.le
  have hk1 := hk.1
  have e2 := sd_get (B := B) hside
  have e4 : (intsA (kingT f r))[k]? = some (.int (((kingT f r).getD k 0 : Nat) : Int)) := tabA_get hk1
  unfold b_king_flights
  refine st_assign ?_
  simp only [wE, wEs, wT, wVar, lget, lset, wBin, binI, cmpA, cmpI, cmpB, truthA, wGetA, getF, wGetI, wSetA, putF, wSetI, wApp, rangeA, List.append_eq, List.cons_append, List.nil_append, List.length_cons, List.length_nil, List.replicate, ↓reduceIte, Nat.reduceEqDiff, if_true, if_false, List.getElem?_cons_zero, List.getElem?_cons_succ, Int.toNat_zero, Int.toNat_one, Nat.reduceAdd, Nat.reduceSub, Int.toNat_natCast, Int.reduceToNat, band_nat, bor_nat, bxor_nat, bandn_nat, band_7, band_15, band_1, bor_0, shr_1, shr_2, shr_3, shr_4, shr_8, shr_16, shr_32, shl_1, shr_v, P.i, P.d, P.si, posD, e2]
  refine ⟨by omega, st_assign ?_⟩
  simp only [wE, wEs, wT, wVar, lget, lset, wBin, binI, cmpA, cmpI, cmpB, truthA, wGetA, getF, wGetI, wSetA, putF, wSetI, wApp, rangeA, List.append_eq, List.cons_append, List.nil_append, List.length_cons, List.length_nil, List.replicate, ↓reduceIte, Nat.reduceEqDiff, if_true, if_false, List.getElem?_cons_zero, List.getElem?_cons_succ, Int.toNat_zero, Int.toNat_one, Nat.reduceAdd, Nat.reduceSub, Int.toNat_natCast, Int.reduceToNat, band_nat, bor_nat, bxor_nat, bandn_nat, band_7, band_15, band_1, bor_0, shr_1, shr_2, shr_3, shr_4, shr_8, shr_16, shr_32, shl_1, shr_v, P.i, P.d, G.i, G.d, posD, geoD]
  refine ⟨by decide, .inr ⟨a, B, B.side, k, rfl, P, K.kl, hside, by omega, hk.2, ?_⟩⟩
  simp only [wE, wEs, wT, wVar, lget, lset, wBin, binI, cmpA, cmpI, cmpB, truthA, wGetA, getF, wGetI, wSetA, putF, wSetI, wApp, rangeA, List.append_eq, List.cons_append, List.nil_append, List.length_cons, List.length_nil, List.replicate, ↓reduceIte, Nat.reduceEqDiff, if_true, if_false, List.getElem?_cons_zero, List.getElem?_cons_succ, Int.toNat_zero, Int.toNat_one, Nat.reduceAdd, Nat.reduceSub, Int.toNat_natCast, Int.reduceToNat, band_nat, bor_nat, bxor_nat, bandn_nat, band_7, band_15, band_1, bor_0, shr_1, shr_2, shr_3, shr_4, shr_8, shr_16, shr_32, shl_1, shr_v, G.king, e4]
  refine ⟨by omega, st_ret ?_⟩
  simp only [wE, wEs, wT, wVar, lget, lset, wBin, binI, cmpA, cmpI, cmpB, truthA, wGetA, getF, wGetI, wSetA, putF, wSetI, wApp, rangeA, List.append_eq, List.cons_append, List.nil_append, List.length_cons, List.length_nil, List.replicate, ↓reduceIte, Nat.reduceEqDiff, if_true, if_false, List.getElem?_cons_zero, List.getElem?_cons_succ, Int.toNat_zero, Int.toNat_one, Nat.reduceAdd, Nat.reduceSub, Int.toNat_natCast, Int.reduceToNat, band_nat, bor_nat, bxor_nat, bandn_nat, band_7, band_15, band_1, bor_0, shr_1, shr_2, shr_3, shr_4, shr_8, shr_16, shr_32, shl_1, shr_v, P.i, P.d, posD]
  refine ⟨by decide, .inr ⟨f, r, a, B, B.side, k, rfl, GP, hside, hk, fun c H' hc hx => ?_⟩⟩
  simp only [wE, wEs, wT, wVar, lget, lset, wBin, binI, cmpA, cmpI, cmpB, truthA, wGetA, getF, wGetI, wSetA, putF, wSetI, wApp, rangeA, List.append_eq, List.cons_append, List.nil_append, List.length_cons, List.length_nil, List.replicate, ↓reduceIte, Nat.reduceEqDiff, if_true, if_false, List.getElem?_cons_zero, List.getElem?_cons_succ, Int.toNat_zero, Int.toNat_one, Nat.reduceAdd, Nat.reduceSub, Int.toNat_natCast, Int.reduceToNat, band_nat, bor_nat, bxor_nat, bandn_nat, band_7, band_15, band_1, bor_0, shr_1, shr_2, shr_3, shr_4, shr_8, shr_16, shr_32, shl_1, shr_v]
  exact q c H' hc hx
theorem body_is_attacked : Body 3 4 8 b_is_attacked W34 := by
  rintro args H Q ⟨f, r, a, B, s, side, occ, rfl, GP, hs, hside, q⟩
  refine ⟨rfl, ?_⟩
  have G := GP.1
  have P := GP.2.1
  have K := GP.2.2
  have e2 := sd_get (B := B) hside
  unfold isAtk at q
  unfold b_is_attacked
  refine st_ife ?_
  simp only [wE, wEs, wT, wVar, lget, lset, wBin, binI, cmpA, cmpI, cmpB, truthA, wGetA, getF, wGetI, wSetA, putF, wSetI, wApp, rangeA, List.append_eq, List.cons_append, List.nil_append, List.length_cons, List.length_nil, List.replicate, ↓reduceIte, Nat.reduceEqDiff, if_true, if_false, List.getElem?_cons_zero, List.getElem?_cons_succ, Int.toNat_zero, Int.toNat_one, Nat.reduceAdd, Nat.reduceSub, Int.toNat_natCast, Int.reduceToNat, band_nat, bor_nat, bxor_nat, bandn_nat, band_7, band_15, band_1, bor_0, shr_1, shr_2, shr_3, shr_4, shr_8, shr_16, shr_32, shl_1, shr_v]
  refine ⟨by decide, .inr ⟨f, r, a, B, s, side, rfl, GP, hs, hside, ?_⟩⟩
  simp only [wE, wEs, wT, wVar, lget, lset, wBin, binI, cmpA, cmpI, cmpB, truthA, wGetA, getF, wGetI, wSetA, putF, wSetI, wApp, rangeA, List.append_eq, List.cons_append, List.nil_append, List.length_cons, List.length_nil, List.replicate, ↓reduceIte, Nat.reduceEqDiff, if_true, if_false, List.getElem?_cons_zero, List.getElem?_cons_succ, Int.toNat_zero, Int.toNat_one, Nat.reduceAdd, Nat.reduceSub, Int.toNat_natCast, Int.reduceToNat, band_nat, bor_nat, bxor_nat, bandn_nat, band_7, band_15, band_1, bor_0, shr_1, shr_2, shr_3, shr_4, shr_8, shr_16, shr_32, shl_1, shr_v, bz]
  cases h1 : (stepAtk f r B s side != 0) with
  | true =>
    rw [h1, Bool.true_or] at q
    refine st_ret ?_
    simp only [wE, wEs, wT, wVar, lget, lset, wBin, binI, cmpA, cmpI, cmpB, truthA, wGetA, getF, wGetI, wSetA, putF, wSetI, wApp, rangeA, List.append_eq, List.cons_append, List.nil_append, List.length_cons, List.length_nil, List.replicate, ↓reduceIte, Nat.reduceEqDiff, if_true, if_false, List.getElem?_cons_zero, List.getElem?_cons_succ, Int.toNat_zero, Int.toNat_one, Nat.reduceAdd, Nat.reduceSub, Int.toNat_natCast, Int.reduceToNat, band_nat, bor_nat, bxor_nat, bandn_nat, band_7, band_15, band_1, bor_0, shr_1, shr_2, shr_3, shr_4, shr_8, shr_16, shr_32, shl_1, shr_v]
    exact q
  | false =>
  rw [h1, Bool.false_or] at q
  refine st_nil (nx_next (st_assign ?_))
  simp only [wE, wEs, wT, wVar, lget, lset, wBin, binI, cmpA, cmpI, cmpB, truthA, wGetA, getF, wGetI, wSetA, putF, wSetI, wApp, rangeA, List.append_eq, List.cons_append, List.nil_append, List.length_cons, List.length_nil, List.replicate, ↓reduceIte, Nat.reduceEqDiff, if_true, if_false, List.getElem?_cons_zero, List.getElem?_cons_succ, Int.toNat_zero, Int.toNat_one, Nat.reduceAdd, Nat.reduceSub, Int.toNat_natCast, Int.reduceToNat, band_nat, bor_nat, bxor_nat, bandn_nat, band_7, band_15, band_1, bor_0, shr_1, shr_2, shr_3, shr_4, shr_8, shr_16, shr_32, shl_1, shr_v, P.i, P.d, posD]
  refine st_assign ?_
  simp only [wE, wEs, wT, wVar, lget, lset, wBin, binI, cmpA, cmpI, cmpB, truthA, wGetA, getF, wGetI, wSetA, putF, wSetI, wApp, rangeA, List.append_eq, List.cons_append, List.nil_append, List.length_cons, List.length_nil, List.replicate, ↓reduceIte, Nat.reduceEqDiff, if_true, if_false, List.getElem?_cons_zero, List.getElem?_cons_succ, Int.toNat_zero, Int.toNat_one, Nat.reduceAdd, Nat.reduceSub, Int.toNat_natCast, Int.reduceToNat, band_nat, bor_nat, bxor_nat, bandn_nat, band_7, band_15, band_1, bor_0, shr_1, shr_2, shr_3, shr_4, shr_8, shr_16, shr_32, shl_1, shr_v, P.i, P.d, P.si, posD, e2]
  refine ⟨by omega, st_assign ?_⟩
  simp only [wE, wEs, wT, wVar, lget, lset, wBin, binI, cmpA, cmpI, cmpB, truthA, wGetA, getF, wGetI, wSetA, putF, wSetI, wApp, rangeA, List.append_eq, List.cons_append, List.nil_append, List.length_cons, List.length_nil, List.replicate, ↓reduceIte, Nat.reduceEqDiff, if_true, if_false, List.getElem?_cons_zero, List.getElem?_cons_succ, Int.toNat_zero, Int.toNat_one, Nat.reduceAdd, Nat.reduceSub, Int.toNat_natCast, Int.reduceToNat, band_nat, bor_nat, bxor_nat, bandn_nat, band_7, band_15, band_1, bor_0, shr_1, shr_2, shr_3, shr_4, shr_8, shr_16, shr_32, shl_1, shr_v]
  refine ⟨by decide, .inr ⟨a, B, rfl, P, K.kl, ?_⟩⟩
  simp only [wE, wEs, wT, wVar, lget, lset, wBin, binI, cmpA, cmpI, cmpB, truthA, wGetA, getF, wGetI, wSetA, putF, wSetI, wApp, rangeA, List.append_eq, List.cons_append, List.nil_append, List.length_cons, List.length_nil, List.replicate, ↓reduceIte, Nat.reduceEqDiff, if_true, if_false, List.getElem?_cons_zero, List.getElem?_cons_succ, Int.toNat_zero, Int.toNat_one, Nat.reduceAdd, Nat.reduceSub, Int.toNat_natCast, Int.reduceToNat, band_nat, bor_nat, bxor_nat, bandn_nat, band_7, band_15, band_1, bor_0, shr_1, shr_2, shr_3, shr_4, shr_8, shr_16, shr_32, shl_1, shr_v]
  refine st_ife ?_
  simp only [wE, wEs, wT, wVar, lget, lset, wBin, binI, cmpA, cmpI, cmpB, truthA, wGetA, getF, wGetI, wSetA, putF, wSetI, wApp, rangeA, List.append_eq, List.cons_append, List.nil_append, List.length_cons, List.length_nil, List.replicate, ↓reduceIte, Nat.reduceEqDiff, if_true, if_false, List.getElem?_cons_zero, List.getElem?_cons_succ, Int.toNat_zero, Int.toNat_one, Nat.reduceAdd, Nat.reduceSub, Int.toNat_natCast, Int.reduceToNat, band_nat, bor_nat, bxor_nat, bandn_nat, band_7, band_15, band_1, bor_0, shr_1, shr_2, shr_3, shr_4, shr_8, shr_16, shr_32, shl_1, shr_v, bz]
  have fin : ((rookAtt f r s occ &&& (straightB B &&& B.sd side)) != 0) = false → wSs (Oo 3) [.assign 7 (.bin .BitAnd (.call 29 [(.var 0)]) (.var 5)), .ret (.and (.cmp .NotEq (.var 7) (.const (.int 0))) (.cmp .NotEq (.bin .BitAnd (.call 17 [(.var 4), (.var 1), (.var 3)]) (.var 7)) (.const (.int 0))))]
      [.ref a.p, .int s, .int side, .int occ, .ref 3, .int (B.sd side : Nat), .int ((straightB B &&& B.sd side : Nat) : Int), .undef] H (fun fl _ H' => Q (retOf fl) H') := by
    intro h2
    rw [h2, Bool.false_or] at q
    refine st_assign ?_
    simp only [wE, wEs, wT, wVar, lget, lset, wBin, binI, cmpA, cmpI, cmpB, truthA, wGetA, getF, wGetI, wSetA, putF, wSetI, wApp, rangeA, List.append_eq, List.cons_append, List.nil_append, List.length_cons, List.length_nil, List.replicate, ↓reduceIte, Nat.reduceEqDiff, if_true, if_false, List.getElem?_cons_zero, List.getElem?_cons_succ, Int.toNat_zero, Int.toNat_one, Nat.reduceAdd, Nat.reduceSub, Int.toNat_natCast, Int.reduceToNat, band_nat, bor_nat, bxor_nat, bandn_nat, band_7, band_15, band_1, bor_0, shr_1, shr_2, shr_3, shr_4, shr_8, shr_16, shr_32, shl_1, shr_v]
    refine ⟨by decide, .inr ⟨a, B, rfl, P, K.kl, ?_⟩⟩
    simp only [wE, wEs, wT, wVar, lget, lset, wBin, binI, cmpA, cmpI, cmpB, truthA, wGetA, getF, wGetI, wSetA, putF, wSetI, wApp, rangeA, List.append_eq, List.cons_append, List.nil_append, List.length_cons, List.length_nil, List.replicate, ↓reduceIte, Nat.reduceEqDiff, if_true, if_false, List.getElem?_cons_zero, List.getElem?_cons_succ, Int.toNat_zero, Int.toNat_one, Nat.reduceAdd, Nat.reduceSub, Int.toNat_natCast, Int.reduceToNat, band_nat, bor_nat, bxor_nat, bandn_nat, band_7, band_15, band_1, bor_0, shr_1, shr_2, shr_3, shr_4, shr_8, shr_16, shr_32, shl_1, shr_v]
    refine st_ret ?_
    simp only [wE, wEs, wT, wVar, lget, lset, wBin, binI, cmpA, cmpI, cmpB, truthA, wGetA, getF, wGetI, wSetA, putF, wSetI, wApp, rangeA, List.append_eq, List.cons_append, List.nil_append, List.length_cons, List.length_nil, List.replicate, ↓reduceIte, Nat.reduceEqDiff, if_true, if_false, List.getElem?_cons_zero, List.getElem?_cons_succ, Int.toNat_zero, Int.toNat_one, Nat.reduceAdd, Nat.reduceSub, Int.toNat_natCast, Int.reduceToNat, band_nat, bor_nat, bxor_nat, bandn_nat, band_7, band_15, band_1, bor_0, shr_1, shr_2, shr_3, shr_4, shr_8, shr_16, shr_32, shl_1, shr_v, bz]
    cases h3 : (slantB B &&& B.sd side != 0) with
    | true =>
      simp only [wE, wEs, wT, wVar, lget, lset, wBin, binI, cmpA, cmpI, cmpB, truthA, wGetA, getF, wGetI, wSetA, putF, wSetI, wApp, rangeA, List.append_eq, List.cons_append, List.nil_append, List.length_cons, List.length_nil, List.replicate, ↓reduceIte, Nat.reduceEqDiff, if_true, if_false, List.getElem?_cons_zero, List.getElem?_cons_succ, Int.toNat_zero, Int.toNat_one, Nat.reduceAdd, Nat.reduceSub, Int.toNat_natCast, Int.reduceToNat, band_nat, bor_nat, bxor_nat, bandn_nat, band_7, band_15, band_1, bor_0, shr_1, shr_2, shr_3, shr_4, shr_8, shr_16, shr_32, shl_1, shr_v]
      refine ⟨by decide, .inr ⟨f, r, s, occ, rfl, G, hs, ?_⟩⟩
      simp only [wE, wEs, wT, wVar, lget, lset, wBin, binI, cmpA, cmpI, cmpB, truthA, wGetA, getF, wGetI, wSetA, putF, wSetI, wApp, rangeA, List.append_eq, List.cons_append, List.nil_append, List.length_cons, List.length_nil, List.replicate, ↓reduceIte, Nat.reduceEqDiff, if_true, if_false, List.getElem?_cons_zero, List.getElem?_cons_succ, Int.toNat_zero, Int.toNat_one, Nat.reduceAdd, Nat.reduceSub, Int.toNat_natCast, Int.reduceToNat, band_nat, bor_nat, bxor_nat, bandn_nat, band_7, band_15, band_1, bor_0, shr_1, shr_2, shr_3, shr_4, shr_8, shr_16, shr_32, shl_1, shr_v, bz]
      exact q
    | false =>
      simp only [wE, wEs, wT, wVar, lget, lset, wBin, binI, cmpA, cmpI, cmpB, truthA, wGetA, getF, wGetI, wSetA, putF, wSetI, wApp, rangeA, List.append_eq, List.cons_append, List.nil_append, List.length_cons, List.length_nil, List.replicate, ↓reduceIte, Nat.reduceEqDiff, if_true, if_false, List.getElem?_cons_zero, List.getElem?_cons_succ, Int.toNat_zero, Int.toNat_one, Nat.reduceAdd, Nat.reduceSub, Int.toNat_natCast, Int.reduceToNat, band_nat, bor_nat, bxor_nat, bandn_nat, band_7, band_15, band_1, bor_0, shr_1, shr_2, shr_3, shr_4, shr_8, shr_16, shr_32, shl_1, shr_v]
      rw [bne_eq_false_iff_eq] at h3
      rw [h3, Nat.and_zero] at q
      exact q
  cases h4 : (straightB B &&& B.sd side != 0) with
  | true =>
    simp only [wE, wEs, wT, wVar, lget, lset, wBin, binI, cmpA, cmpI, cmpB, truthA, wGetA, getF, wGetI, wSetA, putF, wSetI, wApp, rangeA, List.append_eq, List.cons_append, List.nil_append, List.length_cons, List.length_nil, List.replicate, ↓reduceIte, Nat.reduceEqDiff, if_true, if_false, List.getElem?_cons_zero, List.getElem?_cons_succ, Int.toNat_zero, Int.toNat_one, Nat.reduceAdd, Nat.reduceSub, Int.toNat_natCast, Int.reduceToNat, band_nat, bor_nat, bxor_nat, bandn_nat, band_7, band_15, band_1, bor_0, shr_1, shr_2, shr_3, shr_4, shr_8, shr_16, shr_32, shl_1, shr_v]
    refine ⟨by decide, .inr ⟨f, r, s, occ, rfl, G, hs, ?_⟩⟩
    simp only [wE, wEs, wT, wVar, lget, lset, wBin, binI, cmpA, cmpI, cmpB, truthA, wGetA, getF, wGetI, wSetA, putF, wSetI, wApp, rangeA, List.append_eq, List.cons_append, List.nil_append, List.length_cons, List.length_nil, List.replicate, ↓reduceIte, Nat.reduceEqDiff, if_true, if_false, List.getElem?_cons_zero, List.getElem?_cons_succ, Int.toNat_zero, Int.toNat_one, Nat.reduceAdd, Nat.reduceSub, Int.toNat_natCast, Int.reduceToNat, band_nat, bor_nat, bxor_nat, bandn_nat, band_7, band_15, band_1, bor_0, shr_1, shr_2, shr_3, shr_4, shr_8, shr_16, shr_32, shl_1, shr_v, bz]
    cases h5 : ((rookAtt f r s occ &&& (straightB B &&& B.sd side)) != 0) with
    | true =>
      rw [h5, Bool.true_or] at q
      refine st_ret ?_
      simp only [wE, wEs, wT, wVar, lget, lset, wBin, binI, cmpA, cmpI, cmpB, truthA, wGetA, getF, wGetI, wSetA, putF, wSetI, wApp, rangeA, List.append_eq, List.cons_append, List.nil_append, List.length_cons, List.length_nil, List.replicate, ↓reduceIte, Nat.reduceEqDiff, if_true, if_false, List.getElem?_cons_zero, List.getElem?_cons_succ, Int.toNat_zero, Int.toNat_one, Nat.reduceAdd, Nat.reduceSub, Int.toNat_natCast, Int.reduceToNat, band_nat, bor_nat, bxor_nat, bandn_nat, band_7, band_15, band_1, bor_0, shr_1, shr_2, shr_3, shr_4, shr_8, shr_16, shr_32, shl_1, shr_v]
      exact q
    | false => exact st_nil (nx_next (fin h5))
  | false =>
    simp only [wE, wEs, wT, wVar, lget, lset, wBin, binI, cmpA, cmpI, cmpB, truthA, wGetA, getF, wGetI, wSetA, putF, wSetI, wApp, rangeA, List.append_eq, List.cons_append, List.nil_append, List.length_cons, List.length_nil, List.replicate, ↓reduceIte, Nat.reduceEqDiff, if_true, if_false, List.getElem?_cons_zero, List.getElem?_cons_succ, Int.toNat_zero, Int.toNat_one, Nat.reduceAdd, Nat.reduceSub, Int.toNat_natCast, Int.reduceToNat, band_nat, bor_nat, bxor_nat, bandn_nat, band_7, band_15, band_1, bor_0, shr_1, shr_2, shr_3, shr_4, shr_8, shr_16, shr_32, shl_1, shr_v]
    refine st_nil (nx_next (fin ?_))
    rw [bne_eq_false_iff_eq] at h4
    rw [h4, Nat.and_zero]; rfl
end Mine

namespace Mine
theorem set_ne {H : Hp} {i j : Nat} {o : AO} (h : i ≠ j) : (H.set i o)[j]? = H[j]? := List.getElem?_set_ne h
theorem set_eq {H : Hp} {i : Nat} {o o' : AO} (h : H[i]? = some o') : (H.set i o)[i]? = some o := by
  obtain ⟨hl, _⟩ := List.getElem?_eq_some_iff.mp h
  exact List.getElem?_set_self hl
theorem intsA_set (l : List Nat) (i p : Nat) : (intsA l).set i (.int p) = intsA (l.set i p) := by
  unfold intsA; rw [List.map_set]
theorem intsA_len (l : List Nat) : (intsA l).length = l.length := by simp [intsA]
theorem But.refl {a : PA} {H : Hp} : But a H H := ⟨fun _ _ _ _ _ => rfl, rfl⟩
theorem But.trans {a : PA} {H H₁ H₂ : Hp} (x : But a H H₁) (y : But a H₁ H₂) : But a H H₂ := ⟨fun i h1 h2 h3 h4 => (y.1 i h1 h2 h3 h4).trans (x.1 i h1 h2 h3 h4), y.2.trans x.2⟩
theorem But.bo {a : PA} {H : Hp} {o : AO} : But a H (H.set a.bo o) := ⟨fun i h1 h2 h3 h4 => set_ne (Ne.symm h2), List.length_set ..⟩
theorem But.ki {a : PA} {H : Hp} {o : AO} : But a H (H.set a.ki o) := ⟨fun i h1 h2 h3 h4 => set_ne (Ne.symm h3), List.length_set ..⟩
theorem But.si {a : PA} {H : Hp} {o : AO} : But a H (H.set a.si o) := ⟨fun i h1 h2 h3 h4 => set_ne (Ne.symm h4), List.length_set ..⟩
theorem But.pd {a : PA} {H : Hp} {o : AO} : But a H (H.set a.pd o) := ⟨fun i h1 h2 h3 h4 => set_ne (Ne.symm h1), List.length_set ..⟩
section
variable {H : Hp} {a : PA} {B : Bd}
theorem PosAt.setBo (P : PosAt H a B) (o : PAok a) (l : List Nat) : PosAt (H.set a.bo (.list (intsA l))) a { B with bo := l } :=
  ⟨(set_ne o.ne1.2.1.symm).trans P.i, (set_ne o.ne2.1.symm).trans P.d, set_eq P.bo, (set_ne o.ne3.1).trans P.ki, (set_ne o.ne3.2.1).trans P.si, (set_ne o.ne3.2.2).trans P.hs⟩
theorem PosAt.setKi (P : PosAt H a B) (o : PAok a) (l : List Nat) : PosAt (H.set a.ki (.list (intsA l))) a { B with ki := l } :=
  ⟨(set_ne o.ne1.2.2.1.symm).trans P.i, (set_ne o.ne2.2.1.symm).trans P.d, (set_ne o.ne3.1.symm).trans P.bo, set_eq P.ki, (set_ne o.ne4.1).trans P.si, (set_ne o.ne4.2.1).trans P.hs⟩
theorem PosAt.setSi (P : PosAt H a B) (o : PAok a) {i v : Nat} (hi : i < 2) : PosAt (H.set a.si (.list ((intsA [B.s0, B.s1]).set i (.int v)))) a (sdSet B i v) := by
  have p1 := (set_ne (H := H) (o := .list ((intsA [B.s0, B.s1]).set i (.int v))) o.ne1.2.2.2.1.symm).trans P.i
  have p2 := (set_ne (H := H) (o := .list ((intsA [B.s0, B.s1]).set i (.int v))) o.ne2.2.2.1.symm).trans P.d
  have p3 := (set_ne (H := H) (o := .list ((intsA [B.s0, B.s1]).set i (.int v))) o.ne3.2.1.symm).trans P.bo
  have p4 := (set_ne (H := H) (o := .list ((intsA [B.s0, B.s1]).set i (.int v))) o.ne4.1.symm).trans P.ki
  have p5 := (set_ne (H := H) (o := .list ((intsA [B.s0, B.s1]).set i (.int v))) o.ne4.2.2).trans P.hs
  match i, hi with
  | 0, _ => exact ⟨p1, p2, p3, p4, set_eq P.si, p5⟩
  | 1, _ => exact ⟨p1, p2, p3, p4, set_eq P.si, p5⟩
theorem PosAt.setSide (P : PosAt H a B) (o : PAok a) (s : Nat) : PosAt (H.set a.pd (.dict (posD a.pd a.bo a.ki a.si a.hs s))) a { B with side := s } :=
  ⟨(set_ne o.ne1.1.symm).trans P.i, set_eq P.d, (set_ne o.ne2.1).trans P.bo, (set_ne o.ne2.2.1).trans P.ki, (set_ne o.ne2.2.2.1).trans P.si, (set_ne o.ne2.2.2.2).trans P.hs⟩
end
theorem shr3_lt {p : Nat} (h : p ≤ 14) : p >>> 3 < 2 := by rw [Nat.shiftRight_eq_div_pow]; omega
theorem zobP {p : Nat} (h : p ≤ 14) : men15[p]? = some (.ref 47) := by
  rw [men15, List.getElem?_replicate]; simp; omega
theorem zer {n s : Nat} (h : s < n) : (zeros n)[s]? = some (.int 0) := by
  unfold zeros; rw [List.getElem?_replicate]; simp [h]
theorem bxor_00 : Builtin.bitXor 0 0 = 0 := by decide +kernel
theorem body_put : Body 1 3 4 b_put_piece W22 := by
  rintro args H Q ⟨f, r, a, B, p, s, rfl, Z, P, o, K, hp, hs, q⟩
  refine ⟨rfl, ?_⟩
  have hle := K.sz.le
  have hp3 := shr3_lt hp.1
  have hp7 := hp.2
  have bl := K.bl
  have kl := K.kl
  have ek := ki_get kl hp7
  have es := sd_get (B := B) hp3
  unfold b_put_piece
  refine st_assign ?_
  simp only [wE, wEs, wT, wVar, lget, lset, wBin, binI, cmpA, cmpI, cmpB, truthA, wGetA, getF, wGetI, wSetA, putF, wSetI, wApp, rangeA, List.append_eq, List.cons_append, List.nil_append, List.length_cons, List.length_nil, List.replicate, ↓reduceIte, Nat.reduceEqDiff, if_true, if_false, List.getElem?_cons_zero, List.getElem?_cons_succ, Int.toNat_zero, Int.toNat_one, Nat.reduceAdd, Nat.reduceSub, Int.toNat_natCast, Int.reduceToNat, band_nat, bor_nat, bxor_nat, bandn_nat, band_7, band_15, band_1, bor_0, shr_1, shr_2, shr_3, shr_4, shr_8, shr_16, shr_32, shl_1, shr_v]
  refine ⟨⟨by omega, by omega, by decide⟩, st_subSet ?_⟩
  simp only [wE, wEs, wT, wVar, lget, lset, wBin, binI, cmpA, cmpI, cmpB, truthA, wGetA, getF, wGetI, wSetA, putF, wSetI, wApp, rangeA, List.append_eq, List.cons_append, List.nil_append, List.length_cons, List.length_nil, List.replicate, ↓reduceIte, Nat.reduceEqDiff, if_true, if_false, List.getElem?_cons_zero, List.getElem?_cons_succ, Int.toNat_zero, Int.toNat_one, Nat.reduceAdd, Nat.reduceSub, Int.toNat_natCast, Int.reduceToNat, band_nat, bor_nat, bxor_nat, bandn_nat, band_7, band_15, band_1, bor_0, shr_1, shr_2, shr_3, shr_4, shr_8, shr_16, shr_32, shl_1, shr_v, P.i, P.d, P.bo, posD, intsA_set]
  refine ⟨⟨by omega, by omega, by rw [intsA_len]; omega⟩, ?_⟩
  have P1 := P.setBo o (B.bo.set s p)
  have b1 : But a H _ := But.bo (o := .list (intsA (B.bo.set s p)))
  generalize H.set a.bo (.list (intsA (B.bo.set s p))) = H1 at P1 b1 ⊢
  refine st_augS ?_
  simp only [wE, wEs, wT, wVar, lget, lset, wBin, binI, cmpA, cmpI, cmpB, truthA, wGetA, getF, wGetI, wSetA, putF, wSetI, wApp, rangeA, List.append_eq, List.cons_append, List.nil_append, List.length_cons, List.length_nil, List.replicate, ↓reduceIte, Nat.reduceEqDiff, if_true, if_false, List.getElem?_cons_zero, List.getElem?_cons_succ, Int.toNat_zero, Int.toNat_one, Nat.reduceAdd, Nat.reduceSub, Int.toNat_natCast, Int.reduceToNat, band_nat, bor_nat, bxor_nat, bandn_nat, band_7, band_15, band_1, bor_0, shr_1, shr_2, shr_3, shr_4, shr_8, shr_16, shr_32, shl_1, shr_v, P1.i, P1.d, posD]
  refine ⟨by decide, .inr ⟨p, rfl, ?_⟩⟩
  simp only [wE, wEs, wT, wVar, lget, lset, wBin, binI, cmpA, cmpI, cmpB, truthA, wGetA, getF, wGetI, wSetA, putF, wSetI, wApp, rangeA, List.append_eq, List.cons_append, List.nil_append, List.length_cons, List.length_nil, List.replicate, ↓reduceIte, Nat.reduceEqDiff, if_true, if_false, List.getElem?_cons_zero, List.getElem?_cons_succ, Int.toNat_zero, Int.toNat_one, Nat.reduceAdd, Nat.reduceSub, Int.toNat_natCast, Int.reduceToNat, band_nat, bor_nat, bxor_nat, bandn_nat, band_7, band_15, band_1, bor_0, shr_1, shr_2, shr_3, shr_4, shr_8, shr_16, shr_32, shl_1, shr_v, P1.ki, ek, intsA_set]
  refine ⟨by omega, ⟨by omega, by omega, by rw [intsA_len]; omega⟩, ?_⟩
  have P2 := P1.setKi o (B.ki.set (p &&& 7) (B.kd (p &&& 7) ||| 1 <<< s))
  have b2 : But a H _ := b1.trans (But.ki (o := .list (intsA (B.ki.set (p &&& 7) (B.kd (p &&& 7) ||| 1 <<< s)))))
  generalize H1.set a.ki (.list (intsA (B.ki.set (p &&& 7) (B.kd (p &&& 7) ||| 1 <<< s)))) = H2 at P2 b2 ⊢
  refine st_augS ?_
  simp only [wE, wEs, wT, wVar, lget, lset, wBin, binI, cmpA, cmpI, cmpB, truthA, wGetA, getF, wGetI, wSetA, putF, wSetI, wApp, rangeA, List.append_eq, List.cons_append, List.nil_append, List.length_cons, List.length_nil, List.replicate, ↓reduceIte, Nat.reduceEqDiff, if_true, if_false, List.getElem?_cons_zero, List.getElem?_cons_succ, Int.toNat_zero, Int.toNat_one, Nat.reduceAdd, Nat.reduceSub, Int.toNat_natCast, Int.reduceToNat, band_nat, bor_nat, bxor_nat, bandn_nat, band_7, band_15, band_1, bor_0, shr_1, shr_2, shr_3, shr_4, shr_8, shr_16, shr_32, shl_1, shr_v, P2.i, P2.d, posD]
  refine ⟨by decide, .inr ⟨p, rfl, ?_⟩⟩
  simp only [wE, wEs, wT, wVar, lget, lset, wBin, binI, cmpA, cmpI, cmpB, truthA, wGetA, getF, wGetI, wSetA, putF, wSetI, wApp, rangeA, List.append_eq, List.cons_append, List.nil_append, List.length_cons, List.length_nil, List.replicate, ↓reduceIte, Nat.reduceEqDiff, if_true, if_false, List.getElem?_cons_zero, List.getElem?_cons_succ, Int.toNat_zero, Int.toNat_one, Nat.reduceAdd, Nat.reduceSub, Int.toNat_natCast, Int.reduceToNat, band_nat, bor_nat, bxor_nat, bandn_nat, band_7, band_15, band_1, bor_0, shr_1, shr_2, shr_3, shr_4, shr_8, shr_16, shr_32, shl_1, shr_v, P2.si, es]
  refine ⟨by omega, ⟨by omega, by omega, by rw [intsA_len]; exact hp3⟩, ?_⟩
  have P3 := P2.setSi o (v := B.sd (p >>> 3) ||| 1 <<< s) hp3
  have b3 : But a H _ := b2.trans (But.si (o := .list ((intsA [B.s0, B.s1]).set (p >>> 3) (.int ((B.sd (p >>> 3) ||| 1 <<< s : Nat) : Int)))))
  generalize H2.set a.si (.list ((intsA [B.s0, B.s1]).set (p >>> 3) (.int ((B.sd (p >>> 3) ||| 1 <<< s : Nat) : Int)))) = H3 at P3 b3 ⊢
  have Z3 := Z.low (b3.low o)
  refine st_augA ?_
  simp only [wE, wEs, wT, wVar, lget, lset, wBin, binI, cmpA, cmpI, cmpB, truthA, wGetA, getF, wGetI, wSetA, putF, wSetI, wApp, rangeA, List.append_eq, List.cons_append, List.nil_append, List.length_cons, List.length_nil, List.replicate, ↓reduceIte, Nat.reduceEqDiff, if_true, if_false, List.getElem?_cons_zero, List.getElem?_cons_succ, Int.toNat_zero, Int.toNat_one, Nat.reduceAdd, Nat.reduceSub, Int.toNat_natCast, Int.reduceToNat, band_nat, bor_nat, bxor_nat, bandn_nat, band_7, band_15, band_1, bor_0, shr_1, shr_2, shr_3, shr_4, shr_8, shr_16, shr_32, shl_1, shr_v, P3.i, P3.d, posD, Z3.i, Z3.d, Z3.pieces, zobP hp.1, Z3.row, zer hs, bxor_00]
  refine ⟨by omega, by omega, by decide, st_nil ?_⟩
  exact q _ (P3.setSide o _) (b3.trans But.pd)
theorem body_take : Body 1 2 4 b_take_piece W23 := by
  rintro args H Q ⟨f, r, a, B, s, rfl, Z, P, o, K, hs, q⟩
  refine ⟨rfl, ?_⟩
  have hle := K.sz.le
  have hp := K.bp s
  have bl := K.bl
  have kl := K.kl
  have eb : (intsA B.bo)[s]? = some (.int ((B.bo.getD s 0 : Nat) : Int)) := intsA_get (by omega)
  unfold takeB at q
  dsimp only at q
  generalize B.bo.getD s 0 = p at hp eb q
  have hp3 := shr3_lt hp.1
  have hp7 := hp.2
  have ek := ki_get kl hp7
  have es := sd_get (B := B) hp3
  unfold b_take_piece
  refine st_assign ?_
  simp only [wE, wEs, wT, wVar, lget, lset, wBin, binI, cmpA, cmpI, cmpB, truthA, wGetA, getF, wGetI, wSetA, putF, wSetI, wApp, rangeA, List.append_eq, List.cons_append, List.nil_append, List.length_cons, List.length_nil, List.replicate, ↓reduceIte, Nat.reduceEqDiff, if_true, if_false, List.getElem?_cons_zero, List.getElem?_cons_succ, Int.toNat_zero, Int.toNat_one, Nat.reduceAdd, Nat.reduceSub, Int.toNat_natCast, Int.reduceToNat, band_nat, bor_nat, bxor_nat, bandn_nat, band_7, band_15, band_1, bor_0, shr_1, shr_2, shr_3, shr_4, shr_8, shr_16, shr_32, shl_1, shr_v, P.i, P.d, P.bo, posD, eb]
  refine ⟨by omega, st_assign ?_⟩
  simp only [wE, wEs, wT, wVar, lget, lset, wBin, binI, cmpA, cmpI, cmpB, truthA, wGetA, getF, wGetI, wSetA, putF, wSetI, wApp, rangeA, List.append_eq, List.cons_append, List.nil_append, List.length_cons, List.length_nil, List.replicate, ↓reduceIte, Nat.reduceEqDiff, if_true, if_false, List.getElem?_cons_zero, List.getElem?_cons_succ, Int.toNat_zero, Int.toNat_one, Nat.reduceAdd, Nat.reduceSub, Int.toNat_natCast, Int.reduceToNat, band_nat, bor_nat, bxor_nat, bandn_nat, band_7, band_15, band_1, bor_0, shr_1, shr_2, shr_3, shr_4, shr_8, shr_16, shr_32, shl_1, shr_v]
  refine ⟨⟨by omega, by omega, by decide⟩, st_subSet ?_⟩
  simp only [wE, wEs, wT, wVar, lget, lset, wBin, binI, cmpA, cmpI, cmpB, truthA, wGetA, getF, wGetI, wSetA, putF, wSetI, wApp, rangeA, List.append_eq, List.cons_append, List.nil_append, List.length_cons, List.length_nil, List.replicate, ↓reduceIte, Nat.reduceEqDiff, if_true, if_false, List.getElem?_cons_zero, List.getElem?_cons_succ, Int.toNat_zero, Int.toNat_one, Nat.reduceAdd, Nat.reduceSub, Int.toNat_natCast, Int.reduceToNat, band_nat, bor_nat, bxor_nat, bandn_nat, band_7, band_15, band_1, bor_0, shr_1, shr_2, shr_3, shr_4, shr_8, shr_16, shr_32, shl_1, shr_v, P.i, P.d, P.bo, posD]
  refine ⟨⟨by omega, by omega, by rw [intsA_len]; omega⟩, ?_⟩
  rw [show (intsA B.bo).set s (.int 0) = intsA (B.bo.set s 0) from intsA_set B.bo s 0]
  have P1 := P.setBo o (B.bo.set s 0)
  have b1 : But a H _ := But.bo (o := .list (intsA (B.bo.set s 0)))
  generalize H.set a.bo (.list (intsA (B.bo.set s 0))) = H1 at P1 b1 ⊢
  refine st_augS ?_
  simp only [wE, wEs, wT, wVar, lget, lset, wBin, binI, cmpA, cmpI, cmpB, truthA, wGetA, getF, wGetI, wSetA, putF, wSetI, wApp, rangeA, List.append_eq, List.cons_append, List.nil_append, List.length_cons, List.length_nil, List.replicate, ↓reduceIte, Nat.reduceEqDiff, if_true, if_false, List.getElem?_cons_zero, List.getElem?_cons_succ, Int.toNat_zero, Int.toNat_one, Nat.reduceAdd, Nat.reduceSub, Int.toNat_natCast, Int.reduceToNat, band_nat, bor_nat, bxor_nat, bandn_nat, band_7, band_15, band_1, bor_0, shr_1, shr_2, shr_3, shr_4, shr_8, shr_16, shr_32, shl_1, shr_v, P1.i, P1.d, posD]
  refine ⟨by decide, .inr ⟨p, rfl, ?_⟩⟩
  simp only [wE, wEs, wT, wVar, lget, lset, wBin, binI, cmpA, cmpI, cmpB, truthA, wGetA, getF, wGetI, wSetA, putF, wSetI, wApp, rangeA, List.append_eq, List.cons_append, List.nil_append, List.length_cons, List.length_nil, List.replicate, ↓reduceIte, Nat.reduceEqDiff, if_true, if_false, List.getElem?_cons_zero, List.getElem?_cons_succ, Int.toNat_zero, Int.toNat_one, Nat.reduceAdd, Nat.reduceSub, Int.toNat_natCast, Int.reduceToNat, band_nat, bor_nat, bxor_nat, bandn_nat, band_7, band_15, band_1, bor_0, shr_1, shr_2, shr_3, shr_4, shr_8, shr_16, shr_32, shl_1, shr_v, P1.ki, ek, intsA_set]
  refine ⟨by omega, ⟨by omega, by omega, by rw [intsA_len]; omega⟩, ?_⟩
  have P2 := P1.setKi o (B.ki.set (p &&& 7) (B.kd (p &&& 7) ^^^ 1 <<< s))
  have b2 : But a H _ := b1.trans (But.ki (o := .list (intsA (B.ki.set (p &&& 7) (B.kd (p &&& 7) ^^^ 1 <<< s)))))
  generalize H1.set a.ki (.list (intsA (B.ki.set (p &&& 7) (B.kd (p &&& 7) ^^^ 1 <<< s)))) = H2 at P2 b2 ⊢
  refine st_augS ?_
  simp only [wE, wEs, wT, wVar, lget, lset, wBin, binI, cmpA, cmpI, cmpB, truthA, wGetA, getF, wGetI, wSetA, putF, wSetI, wApp, rangeA, List.append_eq, List.cons_append, List.nil_append, List.length_cons, List.length_nil, List.replicate, ↓reduceIte, Nat.reduceEqDiff, if_true, if_false, List.getElem?_cons_zero, List.getElem?_cons_succ, Int.toNat_zero, Int.toNat_one, Nat.reduceAdd, Nat.reduceSub, Int.toNat_natCast, Int.reduceToNat, band_nat, bor_nat, bxor_nat, bandn_nat, band_7, band_15, band_1, bor_0, shr_1, shr_2, shr_3, shr_4, shr_8, shr_16, shr_32, shl_1, shr_v, P2.i, P2.d, posD]
  refine ⟨by decide, .inr ⟨p, rfl, ?_⟩⟩
  simp only [wE, wEs, wT, wVar, lget, lset, wBin, binI, cmpA, cmpI, cmpB, truthA, wGetA, getF, wGetI, wSetA, putF, wSetI, wApp, rangeA, List.append_eq, List.cons_append, List.nil_append, List.length_cons, List.length_nil, List.replicate, ↓reduceIte, Nat.reduceEqDiff, if_true, if_false, List.getElem?_cons_zero, List.getElem?_cons_succ, Int.toNat_zero, Int.toNat_one, Nat.reduceAdd, Nat.reduceSub, Int.toNat_natCast, Int.reduceToNat, band_nat, bor_nat, bxor_nat, bandn_nat, band_7, band_15, band_1, bor_0, shr_1, shr_2, shr_3, shr_4, shr_8, shr_16, shr_32, shl_1, shr_v, P2.si, es]
  refine ⟨by omega, ⟨by omega, by omega, by rw [intsA_len]; exact hp3⟩, ?_⟩
  have P3 := P2.setSi o (v := B.sd (p >>> 3) ^^^ 1 <<< s) hp3
  have b3 : But a H _ := b2.trans (But.si (o := .list ((intsA [B.s0, B.s1]).set (p >>> 3) (.int ((B.sd (p >>> 3) ^^^ 1 <<< s : Nat) : Int)))))
  generalize H2.set a.si (.list ((intsA [B.s0, B.s1]).set (p >>> 3) (.int ((B.sd (p >>> 3) ^^^ 1 <<< s : Nat) : Int)))) = H3 at P3 b3 ⊢
  have Z3 := Z.low (b3.low o)
  refine st_augA ?_
  simp only [wE, wEs, wT, wVar, lget, lset, wBin, binI, cmpA, cmpI, cmpB, truthA, wGetA, getF, wGetI, wSetA, putF, wSetI, wApp, rangeA, List.append_eq, List.cons_append, List.nil_append, List.length_cons, List.length_nil, List.replicate, ↓reduceIte, Nat.reduceEqDiff, if_true, if_false, List.getElem?_cons_zero, List.getElem?_cons_succ, Int.toNat_zero, Int.toNat_one, Nat.reduceAdd, Nat.reduceSub, Int.toNat_natCast, Int.reduceToNat, band_nat, bor_nat, bxor_nat, bandn_nat, band_7, band_15, band_1, bor_0, shr_1, shr_2, shr_3, shr_4, shr_8, shr_16, shr_32, shl_1, shr_v, P3.i, P3.d, posD, Z3.i, Z3.d, Z3.pieces, zobP hp.1, Z3.row, zer hs, bxor_00]
  refine ⟨by omega, by omega, by decide, st_ret ?_⟩
  simp only [wE, wEs, wT, wVar, lget, lset, wBin, binI, cmpA, cmpI, cmpB, truthA, wGetA, getF, wGetI, wSetA, putF, wSetI, wApp, rangeA, List.append_eq, List.cons_append, List.nil_append, List.length_cons, List.length_nil, List.replicate, ↓reduceIte, Nat.reduceEqDiff, if_true, if_false, List.getElem?_cons_zero, List.getElem?_cons_succ, Int.toNat_zero, Int.toNat_one, Nat.reduceAdd, Nat.reduceSub, Int.toNat_natCast, Int.reduceToNat, band_nat, bor_nat, bxor_nat, bandn_nat, band_7, band_15, band_1, bor_0, shr_1, shr_2, shr_3, shr_4, shr_8, shr_16, shr_32, shl_1, shr_v]
  exact q _ _ (P3.setSide o _) (b3.trans But.pd)
theorem body_shift : Body 1 3 6 b_shift_piece W24 := by
  rintro args H Q ⟨f, r, a, B, x, y, rfl, Z, P, o, K, hx, hy, q⟩
  refine ⟨rfl, ?_⟩
  have hle := K.sz.le
  have hp := K.bp x
  have bl := K.bl
  have kl := K.kl
  have eb : (intsA B.bo)[x]? = some (.int ((B.bo.getD x 0 : Nat) : Int)) := intsA_get (by omega)
  unfold shiftB at q
  dsimp only at q
  generalize B.bo.getD x 0 = p at hp eb q
  have hp3 := shr3_lt hp.1
  have hp7 := hp.2
  have ek := ki_get kl hp7
  have es := sd_get (B := B) hp3
  unfold b_shift_piece
  refine st_assign ?_
  simp only [wE, wEs, wT, wVar, lget, lset, wBin, binI, cmpA, cmpI, cmpB, truthA, wGetA, getF, wGetI, wSetA, putF, wSetI, wApp, rangeA, List.append_eq, List.cons_append, List.nil_append, List.length_cons, List.length_nil, List.replicate, ↓reduceIte, Nat.reduceEqDiff, if_true, if_false, List.getElem?_cons_zero, List.getElem?_cons_succ, Int.toNat_zero, Int.toNat_one, Nat.reduceAdd, Nat.reduceSub, Int.toNat_natCast, Int.reduceToNat, band_nat, bor_nat, bxor_nat, bandn_nat, band_7, band_15, band_1, bor_0, shr_1, shr_2, shr_3, shr_4, shr_8, shr_16, shr_32, shl_1, shr_v, P.i, P.d, P.bo, posD, eb]
  refine ⟨by omega, st_assign ?_⟩
  simp only [wE, wEs, wT, wVar, lget, lset, wBin, binI, cmpA, cmpI, cmpB, truthA, wGetA, getF, wGetI, wSetA, putF, wSetI, wApp, rangeA, List.append_eq, List.cons_append, List.nil_append, List.length_cons, List.length_nil, List.replicate, ↓reduceIte, Nat.reduceEqDiff, if_true, if_false, List.getElem?_cons_zero, List.getElem?_cons_succ, Int.toNat_zero, Int.toNat_one, Nat.reduceAdd, Nat.reduceSub, Int.toNat_natCast, Int.reduceToNat, band_nat, bor_nat, bxor_nat, bandn_nat, band_7, band_15, band_1, bor_0, shr_1, shr_2, shr_3, shr_4, shr_8, shr_16, shr_32, shl_1, shr_v]
  refine ⟨⟨by omega, by omega, by decide⟩, ⟨by omega, by omega, by decide⟩, ?_⟩
  generalize 1 <<< x ||| 1 <<< y = bt at q ⊢
  refine st_subSet ?_
  simp only [wE, wEs, wT, wVar, lget, lset, wBin, binI, cmpA, cmpI, cmpB, truthA, wGetA, getF, wGetI, wSetA, putF, wSetI, wApp, rangeA, List.append_eq, List.cons_append, List.nil_append, List.length_cons, List.length_nil, List.replicate, ↓reduceIte, Nat.reduceEqDiff, if_true, if_false, List.getElem?_cons_zero, List.getElem?_cons_succ, Int.toNat_zero, Int.toNat_one, Nat.reduceAdd, Nat.reduceSub, Int.toNat_natCast, Int.reduceToNat, band_nat, bor_nat, bxor_nat, bandn_nat, band_7, band_15, band_1, bor_0, shr_1, shr_2, shr_3, shr_4, shr_8, shr_16, shr_32, shl_1, shr_v, P.i, P.d, P.bo, posD]
  refine ⟨⟨by omega, by omega, by rw [intsA_len]; omega⟩, ?_⟩
  rw [show (intsA B.bo).set x (.int 0) = intsA (B.bo.set x 0) from intsA_set B.bo x 0]
  have P0 := P.setBo o (B.bo.set x 0)
  have b0 : But a H _ := But.bo (o := .list (intsA (B.bo.set x 0)))
  generalize H.set a.bo (.list (intsA (B.bo.set x 0))) = H0 at P0 b0 ⊢
  refine st_subSet ?_
  simp only [wE, wEs, wT, wVar, lget, lset, wBin, binI, cmpA, cmpI, cmpB, truthA, wGetA, getF, wGetI, wSetA, putF, wSetI, wApp, rangeA, List.append_eq, List.cons_append, List.nil_append, List.length_cons, List.length_nil, List.replicate, ↓reduceIte, Nat.reduceEqDiff, if_true, if_false, List.getElem?_cons_zero, List.getElem?_cons_succ, Int.toNat_zero, Int.toNat_one, Nat.reduceAdd, Nat.reduceSub, Int.toNat_natCast, Int.reduceToNat, band_nat, bor_nat, bxor_nat, bandn_nat, band_7, band_15, band_1, bor_0, shr_1, shr_2, shr_3, shr_4, shr_8, shr_16, shr_32, shl_1, shr_v, P0.i, P0.d, P0.bo, posD, intsA_set]
  refine ⟨⟨by omega, by omega, by rw [intsA_len, List.length_set]; omega⟩, ?_⟩
  have P1 := P0.setBo o ((B.bo.set x 0).set y p)
  have b1 : But a H _ := b0.trans (But.bo (o := .list (intsA ((B.bo.set x 0).set y p))))
  generalize H0.set a.bo (.list (intsA ((B.bo.set x 0).set y p))) = H1 at P1 b1 ⊢
  refine st_augS ?_
  simp only [wE, wEs, wT, wVar, lget, lset, wBin, binI, cmpA, cmpI, cmpB, truthA, wGetA, getF, wGetI, wSetA, putF, wSetI, wApp, rangeA, List.append_eq, List.cons_append, List.nil_append, List.length_cons, List.length_nil, List.replicate, ↓reduceIte, Nat.reduceEqDiff, if_true, if_false, List.getElem?_cons_zero, List.getElem?_cons_succ, Int.toNat_zero, Int.toNat_one, Nat.reduceAdd, Nat.reduceSub, Int.toNat_natCast, Int.reduceToNat, band_nat, bor_nat, bxor_nat, bandn_nat, band_7, band_15, band_1, bor_0, shr_1, shr_2, shr_3, shr_4, shr_8, shr_16, shr_32, shl_1, shr_v, P1.i, P1.d, posD]
  refine ⟨by decide, .inr ⟨p, rfl, ?_⟩⟩
  simp only [wE, wEs, wT, wVar, lget, lset, wBin, binI, cmpA, cmpI, cmpB, truthA, wGetA, getF, wGetI, wSetA, putF, wSetI, wApp, rangeA, List.append_eq, List.cons_append, List.nil_append, List.length_cons, List.length_nil, List.replicate, ↓reduceIte, Nat.reduceEqDiff, if_true, if_false, List.getElem?_cons_zero, List.getElem?_cons_succ, Int.toNat_zero, Int.toNat_one, Nat.reduceAdd, Nat.reduceSub, Int.toNat_natCast, Int.reduceToNat, band_nat, bor_nat, bxor_nat, bandn_nat, band_7, band_15, band_1, bor_0, shr_1, shr_2, shr_3, shr_4, shr_8, shr_16, shr_32, shl_1, shr_v, P1.ki, ek, intsA_set]
  refine ⟨by omega, ⟨by omega, by omega, by rw [intsA_len]; omega⟩, ?_⟩
  have P2 := P1.setKi o (B.ki.set (p &&& 7) (B.kd (p &&& 7) ^^^ bt))
  have b2 : But a H _ := b1.trans (But.ki (o := .list (intsA (B.ki.set (p &&& 7) (B.kd (p &&& 7) ^^^ bt)))))
  generalize H1.set a.ki (.list (intsA (B.ki.set (p &&& 7) (B.kd (p &&& 7) ^^^ bt)))) = H2 at P2 b2 ⊢
  refine st_augS ?_
  simp only [wE, wEs, wT, wVar, lget, lset, wBin, binI, cmpA, cmpI, cmpB, truthA, wGetA, getF, wGetI, wSetA, putF, wSetI, wApp, rangeA, List.append_eq, List.cons_append, List.nil_append, List.length_cons, List.length_nil, List.replicate, ↓reduceIte, Nat.reduceEqDiff, if_true, if_false, List.getElem?_cons_zero, List.getElem?_cons_succ, Int.toNat_zero, Int.toNat_one, Nat.reduceAdd, Nat.reduceSub, Int.toNat_natCast, Int.reduceToNat, band_nat, bor_nat, bxor_nat, bandn_nat, band_7, band_15, band_1, bor_0, shr_1, shr_2, shr_3, shr_4, shr_8, shr_16, shr_32, shl_1, shr_v, P2.i, P2.d, posD]
  refine ⟨by decide, .inr ⟨p, rfl, ?_⟩⟩
  simp only [wE, wEs, wT, wVar, lget, lset, wBin, binI, cmpA, cmpI, cmpB, truthA, wGetA, getF, wGetI, wSetA, putF, wSetI, wApp, rangeA, List.append_eq, List.cons_append, List.nil_append, List.length_cons, List.length_nil, List.replicate, ↓reduceIte, Nat.reduceEqDiff, if_true, if_false, List.getElem?_cons_zero, List.getElem?_cons_succ, Int.toNat_zero, Int.toNat_one, Nat.reduceAdd, Nat.reduceSub, Int.toNat_natCast, Int.reduceToNat, band_nat, bor_nat, bxor_nat, bandn_nat, band_7, band_15, band_1, bor_0, shr_1, shr_2, shr_3, shr_4, shr_8, shr_16, shr_32, shl_1, shr_v, P2.si, es]
  refine ⟨by omega, ⟨by omega, by omega, by rw [intsA_len]; exact hp3⟩, ?_⟩
  have P3 := P2.setSi o (v := B.sd (p >>> 3) ^^^ bt) hp3
  have b3 : But a H _ := b2.trans (But.si (o := .list ((intsA [B.s0, B.s1]).set (p >>> 3) (.int ((B.sd (p >>> 3) ^^^ bt : Nat) : Int)))))
  generalize H2.set a.si (.list ((intsA [B.s0, B.s1]).set (p >>> 3) (.int ((B.sd (p >>> 3) ^^^ bt : Nat) : Int)))) = H3 at P3 b3 ⊢
  have Z3 := Z.low (b3.low o)
  refine st_assign ?_
  simp only [wE, wEs, wT, wVar, lget, lset, wBin, binI, cmpA, cmpI, cmpB, truthA, wGetA, getF, wGetI, wSetA, putF, wSetI, wApp, rangeA, List.append_eq, List.cons_append, List.nil_append, List.length_cons, List.length_nil, List.replicate, ↓reduceIte, Nat.reduceEqDiff, if_true, if_false, List.getElem?_cons_zero, List.getElem?_cons_succ, Int.toNat_zero, Int.toNat_one, Nat.reduceAdd, Nat.reduceSub, Int.toNat_natCast, Int.reduceToNat, band_nat, bor_nat, bxor_nat, bandn_nat, band_7, band_15, band_1, bor_0, shr_1, shr_2, shr_3, shr_4, shr_8, shr_16, shr_32, shl_1, shr_v, P3.i, P3.d, posD, Z3.i, Z3.d, Z3.pieces, zobP hp.1]
  refine ⟨by omega, st_augA ?_⟩
  simp only [wE, wEs, wT, wVar, lget, lset, wBin, binI, cmpA, cmpI, cmpB, truthA, wGetA, getF, wGetI, wSetA, putF, wSetI, wApp, rangeA, List.append_eq, List.cons_append, List.nil_append, List.length_cons, List.length_nil, List.replicate, ↓reduceIte, Nat.reduceEqDiff, if_true, if_false, List.getElem?_cons_zero, List.getElem?_cons_succ, Int.toNat_zero, Int.toNat_one, Nat.reduceAdd, Nat.reduceSub, Int.toNat_natCast, Int.reduceToNat, band_nat, bor_nat, bxor_nat, bandn_nat, band_7, band_15, band_1, bor_0, shr_1, shr_2, shr_3, shr_4, shr_8, shr_16, shr_32, shl_1, shr_v, P3.i, P3.d, posD, Z3.row, zer hx, zer hy, bxor_00]
  refine ⟨by omega, by omega, by decide, st_nil ?_⟩
  exact q _ (P3.setSide o _) (b3.trans But.pd)
end Mine

namespace Mine
/-! tally -/
theorem fmod_nat {z : Int} {m : Nat} (h : 0 < m) : ∃ v : Nat, z.fmod (m : Int) = (v : Int) ∧ v < m := by
  refine ⟨(z.fmod m).toNat, ?_, ?_⟩
  · exact (Int.toNat_of_nonneg (Int.fmod_nonneg_of_pos z (by omega))).symm
  · have := Int.fmod_lt_of_pos z (b := (m : Int)) (by omega)
    have := Int.fmod_nonneg_of_pos z (b := (m : Int)) (by omega)
    omega
theorem body_tally : Body 0 2 2 b_law_tally W44 := by
  rintro args H Q ⟨ns, c, many, rfl, ⟨h0, h1, hl⟩, hc, hm, q⟩
  refine ⟨rfl, ?_⟩
  unfold b_law_tally
  refine st_augS ?_
  simp only [wE, wEs, wT, wVar, lget, lset, wBin, binI, cmpA, cmpI, cmpB, truthA, wGetA, getF, wGetI, wSetA, putF, wSetI, wApp, rangeA, List.append_eq, List.cons_append, List.nil_append, List.length_cons, List.length_nil, List.replicate, ↓reduceIte, Nat.reduceEqDiff, if_true, if_false, List.getElem?_cons_zero, List.getElem?_cons_succ, Int.toNat_zero, Int.toNat_one, Nat.reduceAdd, Nat.reduceSub, Int.toNat_natCast, Int.reduceToNat, band_nat, bor_nat, bxor_nat, bandn_nat, band_7, band_15, band_1, bor_0, shr_1, shr_2, shr_3, shr_4, shr_8, shr_16, shr_32, shl_1, shr_v, h1, List.set_cons_succ, List.set_cons_zero]
  refine ⟨by omega, ⟨by omega, by omega, by decide⟩, ?_⟩
  have g1 : (H.set 1 (AO.list [AV.ref 0, AV.int ((c : Int) + 1)]))[1]? = some (AO.list [AV.ref 0, AV.int ((c : Int) + 1)]) := set_eq h1
  have g0 : (H.set 1 (AO.list [AV.ref 0, AV.int ((c : Int) + 1)]))[0]? = some (.list (ns.map .int)) := (set_ne (by decide)).trans h0
  have gg : ∀ i, i ≠ 1 → (H.set 1 (AO.list [AV.ref 0, AV.int ((c : Int) + 1)]))[i]? = H[i]? := fun i hi => set_ne (Ne.symm hi)
  have gl : (H.set 1 (AO.list [AV.ref 0, AV.int ((c : Int) + 1)])).length = H.length := List.length_set ..
  generalize H.set 1 (AO.list [AV.ref 0, AV.int ((c : Int) + 1)]) = H1 at g0 g1 gg gl ⊢
  have fin : ∀ z : Int, ((many : Int) ≠ 0) ∧ Q (.int (z.fmod (many : Int))) H1 := fun z => by
    obtain ⟨v, e, hv⟩ := fmod_nat (z := z) hm
    rw [e]
    exact ⟨by omega, q v H1 hv ⟨g0, g1, hl⟩ gg gl⟩
  refine st_ret ?_
  simp only [wE, wEs, wT, wVar, lget, lset, wBin, binI, cmpA, cmpI, cmpB, truthA, wGetA, getF, wGetI, wSetA, putF, wSetI, wApp, rangeA, List.append_eq, List.cons_append, List.nil_append, List.length_cons, List.length_nil, List.replicate, ↓reduceIte, Nat.reduceEqDiff, if_true, if_false, List.getElem?_cons_zero, List.getElem?_cons_succ, Int.toNat_zero, Int.toNat_one, Nat.reduceAdd, Nat.reduceSub, Int.toNat_natCast, Int.reduceToNat, band_nat, bor_nat, bxor_nat, bandn_nat, band_7, band_15, band_1, bor_0, shr_1, shr_2, shr_3, shr_4, shr_8, shr_16, shr_32, shl_1, shr_v, g1, g0, List.length_map]
  refine ⟨by omega, by omega, by omega, ?_⟩
  by_cases hle : (c : Int) + 1 ≤ ns.length
  · rw [decide_eq_true hle]
    have hx : ((c : Int) + 1 - 1).toNat = c := by omega
    have hcl : c < ns.length := by omega
    simp only [wE, wEs, wT, wVar, lget, lset, wBin, binI, cmpA, cmpI, cmpB, truthA, wGetA, getF, wGetI, wSetA, putF, wSetI, wApp, rangeA, List.append_eq, List.cons_append, List.nil_append, List.length_cons, List.length_nil, List.replicate, ↓reduceIte, Nat.reduceEqDiff, if_true, if_false, List.getElem?_cons_zero, List.getElem?_cons_succ, Int.toNat_zero, Int.toNat_one, Nat.reduceAdd, Nat.reduceSub, Int.toNat_natCast, Int.reduceToNat, band_nat, bor_nat, bxor_nat, bandn_nat, band_7, band_15, band_1, bor_0, shr_1, shr_2, shr_3, shr_4, shr_8, shr_16, shr_32, shl_1, shr_v, hx, List.getElem?_map, List.getElem?_eq_getElem hcl, Option.map_some]
    refine ⟨by omega, by omega, by omega, ?_⟩
    exact fin _
  · rw [decide_eq_false hle]
    simp only [wE, wEs, wT, wVar, lget, lset, wBin, binI, cmpA, cmpI, cmpB, truthA, wGetA, getF, wGetI, wSetA, putF, wSetI, wApp, rangeA, List.append_eq, List.cons_append, List.nil_append, List.length_cons, List.length_nil, List.replicate, ↓reduceIte, Nat.reduceEqDiff, if_true, if_false, List.getElem?_cons_zero, List.getElem?_cons_succ, Int.toNat_zero, Int.toNat_one, Nat.reduceAdd, Nat.reduceSub, Int.toNat_natCast, Int.reduceToNat, band_nat, bor_nat, bxor_nat, bandn_nat, band_7, band_15, band_1, bor_0, shr_1, shr_2, shr_3, shr_4, shr_8, shr_16, shr_32, shl_1, shr_v]
    refine ⟨by omega, by omega, by omega, by omega, ?_⟩
    exact fin _
/-! squares_of -/
noncomputable def SqI (b₀ : Nat) (L : List Nat) (b sq : Nat) : Prop := (∀ i, b₀.testBit i = true ↔ i ∈ L ∨ (sq ≤ i ∧ b.testBit (i - sq) = true)) ∧ b * 2 ^ sq < 2 ^ 16 ∧ L.length ≤ sq
theorem SqI.four {b₀ b sq : Nat} {L : List Nat} (h : SqI b₀ L b sq) (h0 : b &&& 15 = 0) : SqI b₀ L (b >>> 4) (sq + 4) := by
  obtain ⟨h1, h2, h3⟩ := h
  refine ⟨fun i => ?_, ?_, by omega⟩
  · rw [h1]
    refine or_congr_right ⟨fun ⟨x, y⟩ => ?_, fun ⟨x, y⟩ => ⟨by omega, ?_⟩⟩
    · by_cases hi : sq + 4 ≤ i
      · refine ⟨hi, ?_⟩
        rw [Nat.testBit_shiftRight]
        have : 4 + (i - (sq + 4)) = i - sq := by omega
        rw [this]; exact y
      · have : (b &&& 15).testBit (i - sq) = true := by
          rw [Nat.testBit_and, y, Bool.true_and]
          have hlt : i - sq < 4 := by omega
          generalize i - sq = j at hlt
          match j, hlt with
          | 0, _ => decide
          | 1, _ => decide
          | 2, _ => decide
          | 3, _ => decide
          | n + 4, h => exact absurd h (by omega)
        rw [h0] at this; simp at this
    · rw [Nat.testBit_shiftRight] at y
      have : 4 + (i - (sq + 4)) = i - sq := by omega
      rwa [this] at y
  · refine Nat.lt_of_le_of_lt ?_ h2
    rw [Nat.shiftRight_eq_div_pow, Nat.pow_add, Nat.mul_comm (2 ^ sq), ← Nat.mul_assoc]
    exact Nat.mul_le_mul_right _ (Nat.div_mul_le_self b _)
theorem SqI.one {b₀ b sq : Nat} {L : List Nat} (h : SqI b₀ L b sq) : SqI b₀ (if b.testBit 0 = true then L ++ [sq] else L) (b >>> 1) (sq + 1) := by
  obtain ⟨h1, h2, h3⟩ := h
  refine ⟨fun i => ?_, ?_, ?_⟩
  · rw [h1]
    have ht : ∀ (x : sq + 1 ≤ i), (b >>> 1).testBit (i - (sq + 1)) = b.testBit (i - sq) := fun x => by
      rw [Nat.testBit_shiftRight]
      have : 1 + (i - (sq + 1)) = i - sq := by omega
      rw [this]
    constructor
    · rintro (h | ⟨x, y⟩)
      · left; split
        · exact List.mem_append_left _ h
        · exact h
      · by_cases hi : sq + 1 ≤ i
        · exact .inr ⟨hi, by rw [ht hi]; exact y⟩
        · have e : i = sq := by omega
          subst e
          rw [Nat.sub_self] at y
          left; rw [if_pos y]; simp
    · rintro (h | ⟨x, y⟩)
      · split at h
        · rename_i hb
          rcases List.mem_append.mp h with q | q
          · exact .inl q
          · rw [List.mem_singleton.mp q]; exact .inr ⟨Nat.le_refl _, by rw [Nat.sub_self]; exact hb⟩
        · exact .inl h
      · exact .inr ⟨by omega, by rw [← ht x]; exact y⟩
  · refine Nat.lt_of_le_of_lt ?_ h2
    rw [Nat.shiftRight_eq_div_pow, Nat.pow_add, Nat.mul_comm (2 ^ sq), ← Nat.mul_assoc]
    exact Nat.mul_le_mul_right _ (Nat.div_mul_le_self b _)
  · split
    · simp; omega
    · omega
theorem SqI.lt {b₀ b sq : Nat} {L : List Nat} (h : SqI b₀ L b sq) (h0 : b ≠ 0) : sq < 16 := by
  have h2 := h.2.1
  rcases Nat.lt_or_ge sq 16 with h | h
  · exact h
  · exfalso
    have : 2 ^ 16 ≤ 2 ^ sq := Nat.pow_le_pow_right (by decide) h
    have : 1 * 2 ^ sq ≤ b * 2 ^ sq := Nat.mul_le_mul_right _ (by omega)
    omega
section
variable {O : Orc} {l : List AV} {H : Hp} {Q : Cont}
noncomputable abbrev Wx (T : List AV → Hp → (Bool → Hp → Prop) → Prop) (B : Tr) (n : Nat) (Q : Cont) : Cont := fun fl l H => match fl with
  | .next => wWh T B n l H Q
  | .cont => wWh T B n l H Q
  | .brk => Q .next l H
  | .ret v => Q (.ret v) l H
theorem wh_in {t : E} {b : List S} {n : Nat} (h : wT O l t H fun c H => match c with | true => wSs O b l H (Wx (fun l H Q => wT O l t H Q) (wSs O b) n Q) | false => Q .next l H) : wWh (fun l H Q => wT O l t H Q) (wSs O b) (n + 1) l H Q := h
theorem wx_next {T : List AV → Hp → (Bool → Hp → Prop) → Prop} {B : Tr} {n : Nat} (h : wWh T B n l H Q) : Wx T B n Q .next l H := h
end
noncomputable def sqT : E := .not (.bin .BitAnd (.var 0) (.const (.int 15)))
noncomputable def sqB : List S := [.augN 0 .RShift (.const (.int 4)), .augN 2 .Add (.const (.int 4))]
theorem and1_bit (b : Nat) : ((b &&& 1 != 0) : Bool) = b.testBit 0 := by
  rw [Nat.testBit_zero, Nat.and_one_is_mod]
  have : b % 2 = 0 ∨ b % 2 = 1 := by omega
  rcases this with h | h <;> simp [h]
theorem sq_inner {O : Orc} {o : AV} (ho : ∀ Q : AV → Prop, wVar [.none, o] 1 Q = Q o) {H : Hp} {Q : Cont} {b₀ : Nat} {L : List Nat} : ∀ (m b : Nat), b ≤ m → ∀ sq, b ≠ 0 → SqI b₀ L b sq →
    (∀ b' sq', b' ≠ 0 → b' ≤ b → SqI b₀ L b' sq' → Q .next [.int b', o, .int sq'] H) → ∃ n, wWh (fun l H Q => wT O l sqT H Q) (wSs O sqB) n [.int b, o, .int sq] H Q := by
  intro m
  induction m with
  | zero => intro b hb sq h0; exact absurd (Nat.le_zero.mp hb) h0
  | succ m ih =>
    intro b hb sq h0 I k
    by_cases h15 : b &&& 15 = 0
    · have hlt : b >>> 4 < b := by rw [Nat.shiftRight_eq_div_pow]; omega
      have hne : b >>> 4 ≠ 0 := fun e => by
        have : b < 16 := by rw [Nat.shiftRight_eq_div_pow] at e; omega
        have h2 : b &&& 15 = b % 16 := Nat.and_two_pow_sub_one_eq_mod b 4
        omega
      obtain ⟨n, hn⟩ := ih (b >>> 4) (by omega) (sq + 4) hne (I.four h15) fun b' sq' x y z => k b' sq' x (by omega) z
      refine ⟨n + 1, wh_in ?_⟩
      unfold sqT
      simp only [wE, wEs, wT, wVar, lget, lset, wBin, binI, cmpA, cmpI, cmpB, truthA, wGetA, getF, wGetI, wSetA, putF, wSetI, wApp, rangeA, List.append_eq, List.cons_append, List.nil_append, List.length_cons, List.length_nil, List.replicate, ↓reduceIte, Nat.reduceEqDiff, if_true, if_false, List.getElem?_cons_zero, List.getElem?_cons_succ, Int.toNat_zero, Int.toNat_one, Nat.reduceAdd, Nat.reduceSub, Int.toNat_natCast, Int.reduceToNat, band_nat, bor_nat, bxor_nat, bandn_nat, band_7, band_15, band_1, bor_0, shr_1, shr_2, shr_3, shr_4, shr_8, shr_16, shr_32, shl_1, shr_v, bz, h15, bne_self_eq_false, Bool.not_false]
      unfold sqB
      refine st_augN ?_
      simp only [wE, wEs, wT, wVar, lget, lset, wBin, binI, cmpA, cmpI, cmpB, truthA, wGetA, getF, wGetI, wSetA, putF, wSetI, wApp, rangeA, List.append_eq, List.cons_append, List.nil_append, List.length_cons, List.length_nil, List.replicate, ↓reduceIte, Nat.reduceEqDiff, if_true, if_false, List.getElem?_cons_zero, List.getElem?_cons_succ, Int.toNat_zero, Int.toNat_one, Nat.reduceAdd, Nat.reduceSub, Int.toNat_natCast, Int.reduceToNat, band_nat, bor_nat, bxor_nat, bandn_nat, band_7, band_15, band_1, bor_0, shr_1, shr_2, shr_3, shr_4, shr_8, shr_16, shr_32, shl_1, shr_v]
      refine ⟨by decide, st_augN ?_⟩
      simp only [wE, wEs, wT, wVar, lget, lset, wBin, binI, cmpA, cmpI, cmpB, truthA, wGetA, getF, wGetI, wSetA, putF, wSetI, wApp, rangeA, List.append_eq, List.cons_append, List.nil_append, List.length_cons, List.length_nil, List.replicate, ↓reduceIte, Nat.reduceEqDiff, if_true, if_false, List.getElem?_cons_zero, List.getElem?_cons_succ, Int.toNat_zero, Int.toNat_one, Nat.reduceAdd, Nat.reduceSub, Int.toNat_natCast, Int.reduceToNat, band_nat, bor_nat, bxor_nat, bandn_nat, band_7, band_15, band_1, bor_0, shr_1, shr_2, shr_3, shr_4, shr_8, shr_16, shr_32, shl_1, shr_v]
      exact st_nil (wx_next hn)
    · refine ⟨1, wh_in ?_⟩
      unfold sqT
      simp only [wE, wEs, wT, wVar, lget, lset, wBin, binI, cmpA, cmpI, cmpB, truthA, wGetA, getF, wGetI, wSetA, putF, wSetI, wApp, rangeA, List.append_eq, List.cons_append, List.nil_append, List.length_cons, List.length_nil, List.replicate, ↓reduceIte, Nat.reduceEqDiff, if_true, if_false, List.getElem?_cons_zero, List.getElem?_cons_succ, Int.toNat_zero, Int.toNat_one, Nat.reduceAdd, Nat.reduceSub, Int.toNat_natCast, Int.reduceToNat, band_nat, bor_nat, bxor_nat, bandn_nat, band_7, band_15, band_1, bor_0, shr_1, shr_2, shr_3, shr_4, shr_8, shr_16, shr_32, shl_1, shr_v, bz, bne_iff_ne.mpr h15, Bool.not_true]
      exact k b sq h0 (Nat.le_refl _) I
noncomputable def sqBB : List S := [.loop sqT sqB, .ife (.bin .BitAnd (.var 0) (.const (.int 1))) [.expr (.app (.var 1) (.var 2))] [], .augN 0 .RShift (.const (.int 1)), .augN 2 .Add (.const (.int 1))]
theorem set_last {H : Hp} {o o' : AO} : (H ++ [o]).set H.length o' = H ++ [o'] := by
  rw [List.set_append_right _ _ (Nat.le_refl _)]; simp
theorem intsA_snoc (L : List Nat) (s : Nat) : intsA L ++ [.int s] = intsA (L ++ [s]) := by simp [intsA]
theorem sq_outer {O : Orc} {H : Hp} {Q : Cont} {b₀ : Nat} (k : ∀ L sq, (∀ i, i ∈ L ↔ b₀.testBit i = true) → Q .next [.int 0, .ref H.length, .int sq] (H ++ [.list (intsA L)])) :
    ∀ (n b : Nat), b < n → ∀ (sq : Nat) L, SqI b₀ L b sq → wWh (fun l H Q => wT O l (.var 0) H Q) (wSs O sqBB) n [.int b, .ref H.length, .int sq] (H ++ [.list (intsA L)]) Q := by
  intro n
  induction n with
  | zero => intro b hb; exact absurd hb (by omega)
  | succ n ih =>
    intro b hb sq L I
    refine wh_in ?_
    by_cases h0 : b = 0
    · subst h0
      simp only [wE, wEs, wT, wVar, lget, lset, wBin, binI, cmpA, cmpI, cmpB, truthA, wGetA, getF, wGetI, wSetA, putF, wSetI, wApp, rangeA, List.append_eq, List.cons_append, List.nil_append, List.length_cons, List.length_nil, List.replicate, ↓reduceIte, Nat.reduceEqDiff, if_true, if_false, List.getElem?_cons_zero, List.getElem?_cons_succ, Int.toNat_zero, Int.toNat_one, Nat.reduceAdd, Nat.reduceSub, Int.toNat_natCast, Int.reduceToNat, band_nat, bor_nat, bxor_nat, bandn_nat, band_7, band_15, band_1, bor_0, shr_1, shr_2, shr_3, shr_4, shr_8, shr_16, shr_32, shl_1, shr_v, bz, bne_self_eq_false]
      refine k L sq fun i => ?_
      rw [I.1 i]
      simp
    simp only [wE, wEs, wT, wVar, lget, lset, wBin, binI, cmpA, cmpI, cmpB, truthA, wGetA, getF, wGetI, wSetA, putF, wSetI, wApp, rangeA, List.append_eq, List.cons_append, List.nil_append, List.length_cons, List.length_nil, List.replicate, ↓reduceIte, Nat.reduceEqDiff, if_true, if_false, List.getElem?_cons_zero, List.getElem?_cons_succ, Int.toNat_zero, Int.toNat_one, Nat.reduceAdd, Nat.reduceSub, Int.toNat_natCast, Int.reduceToNat, band_nat, bor_nat, bxor_nat, bandn_nat, band_7, band_15, band_1, bor_0, shr_1, shr_2, shr_3, shr_4, shr_8, shr_16, shr_32, shl_1, shr_v, bz, bne_iff_ne.mpr h0]
    unfold sqBB
    refine st_loop (sq_inner (fun _ => rfl) b b (Nat.le_refl _) sq h0 I fun b' sq' h1 h2 I' => nx_next ?_)
    have hlt : b' >>> 1 < n := by rw [Nat.shiftRight_eq_div_pow]; omega
    have hsq := I'.lt h1
    have hl := I'.2.2
    have I2 := I'.one
    refine st_ife ?_
    simp only [wE, wEs, wT, wVar, lget, lset, wBin, binI, cmpA, cmpI, cmpB, truthA, wGetA, getF, wGetI, wSetA, putF, wSetI, wApp, rangeA, List.append_eq, List.cons_append, List.nil_append, List.length_cons, List.length_nil, List.replicate, ↓reduceIte, Nat.reduceEqDiff, if_true, if_false, List.getElem?_cons_zero, List.getElem?_cons_succ, Int.toNat_zero, Int.toNat_one, Nat.reduceAdd, Nat.reduceSub, Int.toNat_natCast, Int.reduceToNat, band_nat, bor_nat, bxor_nat, bandn_nat, band_7, band_15, band_1, bor_0, shr_1, shr_2, shr_3, shr_4, shr_8, shr_16, shr_32, shl_1, shr_v, bz, and1_bit]
    by_cases ht : b'.testBit 0 = true
    · rw [if_pos ht] at I2
      simp only [ht]
      refine st_expr ?_
      have e : (H ++ [AO.list (intsA L)])[H.length]? = some (.list (intsA L)) := by simp
      simp only [wE, wEs, wT, wVar, lget, lset, wBin, binI, cmpA, cmpI, cmpB, truthA, wGetA, getF, wGetI, wSetA, putF, wSetI, wApp, rangeA, List.append_eq, List.cons_append, List.nil_append, List.length_cons, List.length_nil, List.replicate, ↓reduceIte, Nat.reduceEqDiff, if_true, if_false, List.getElem?_cons_zero, List.getElem?_cons_succ, Int.toNat_zero, Int.toNat_one, Nat.reduceAdd, Nat.reduceSub, Int.toNat_natCast, Int.reduceToNat, band_nat, bor_nat, bxor_nat, bandn_nat, band_7, band_15, band_1, bor_0, shr_1, shr_2, shr_3, shr_4, shr_8, shr_16, shr_32, shl_1, shr_v, e, set_last, intsA_snoc]
      refine ⟨by rw [intsA_len]; omega, st_nil (nx_next (st_augN ?_))⟩
      simp only [wE, wEs, wT, wVar, lget, lset, wBin, binI, cmpA, cmpI, cmpB, truthA, wGetA, getF, wGetI, wSetA, putF, wSetI, wApp, rangeA, List.append_eq, List.cons_append, List.nil_append, List.length_cons, List.length_nil, List.replicate, ↓reduceIte, Nat.reduceEqDiff, if_true, if_false, List.getElem?_cons_zero, List.getElem?_cons_succ, Int.toNat_zero, Int.toNat_one, Nat.reduceAdd, Nat.reduceSub, Int.toNat_natCast, Int.reduceToNat, band_nat, bor_nat, bxor_nat, bandn_nat, band_7, band_15, band_1, bor_0, shr_1, shr_2, shr_3, shr_4, shr_8, shr_16, shr_32, shl_1, shr_v]
      refine ⟨by decide, st_augN ?_⟩
      simp only [wE, wEs, wT, wVar, lget, lset, wBin, binI, cmpA, cmpI, cmpB, truthA, wGetA, getF, wGetI, wSetA, putF, wSetI, wApp, rangeA, List.append_eq, List.cons_append, List.nil_append, List.length_cons, List.length_nil, List.replicate, ↓reduceIte, Nat.reduceEqDiff, if_true, if_false, List.getElem?_cons_zero, List.getElem?_cons_succ, Int.toNat_zero, Int.toNat_one, Nat.reduceAdd, Nat.reduceSub, Int.toNat_natCast, Int.reduceToNat, band_nat, bor_nat, bxor_nat, bandn_nat, band_7, band_15, band_1, bor_0, shr_1, shr_2, shr_3, shr_4, shr_8, shr_16, shr_32, shl_1, shr_v]
      exact st_nil (wx_next (ih _ hlt _ _ I2))
    · rw [if_neg ht] at I2
      simp only [Bool.eq_false_iff.mpr ht]
      refine st_nil (nx_next (st_augN ?_))
      simp only [wE, wEs, wT, wVar, lget, lset, wBin, binI, cmpA, cmpI, cmpB, truthA, wGetA, getF, wGetI, wSetA, putF, wSetI, wApp, rangeA, List.append_eq, List.cons_append, List.nil_append, List.length_cons, List.length_nil, List.replicate, ↓reduceIte, Nat.reduceEqDiff, if_true, if_false, List.getElem?_cons_zero, List.getElem?_cons_succ, Int.toNat_zero, Int.toNat_one, Nat.reduceAdd, Nat.reduceSub, Int.toNat_natCast, Int.reduceToNat, band_nat, bor_nat, bxor_nat, bandn_nat, band_7, band_15, band_1, bor_0, shr_1, shr_2, shr_3, shr_4, shr_8, shr_16, shr_32, shl_1, shr_v]
      refine ⟨by decide, st_augN ?_⟩
      simp only [wE, wEs, wT, wVar, lget, lset, wBin, binI, cmpA, cmpI, cmpB, truthA, wGetA, getF, wGetI, wSetA, putF, wSetI, wApp, rangeA, List.append_eq, List.cons_append, List.nil_append, List.length_cons, List.length_nil, List.replicate, ↓reduceIte, Nat.reduceEqDiff, if_true, if_false, List.getElem?_cons_zero, List.getElem?_cons_succ, Int.toNat_zero, Int.toNat_one, Nat.reduceAdd, Nat.reduceSub, Int.toNat_natCast, Int.reduceToNat, band_nat, bor_nat, bxor_nat, bandn_nat, band_7, band_15, band_1, bor_0, shr_1, shr_2, shr_3, shr_4, shr_8, shr_16, shr_32, shl_1, shr_v]
      exact st_nil (wx_next (ih _ hlt _ _ I2))
theorem body_squares_of : Body 0 1 3 b_squares_of W5 := by
  rintro args H Q ⟨b, rfl, hb, q⟩
  refine ⟨rfl, ?_⟩
  unfold b_squares_of
  refine st_assign ?_
  simp only [wE, wEs, wT, wVar, lget, lset, wBin, binI, cmpA, cmpI, cmpB, truthA, wGetA, getF, wGetI, wSetA, putF, wSetI, wApp, rangeA, List.append_eq, List.cons_append, List.nil_append, List.length_cons, List.length_nil, List.replicate, ↓reduceIte, Nat.reduceEqDiff, if_true, if_false, List.getElem?_cons_zero, List.getElem?_cons_succ, Int.toNat_zero, Int.toNat_one, Nat.reduceAdd, Nat.reduceSub, Int.toNat_natCast, Int.reduceToNat, band_nat, bor_nat, bxor_nat, bandn_nat, band_7, band_15, band_1, bor_0, shr_1, shr_2, shr_3, shr_4, shr_8, shr_16, shr_32, shl_1, shr_v]
  refine ⟨by decide, st_assign ?_⟩
  simp only [wE, wEs, wT, wVar, lget, lset, wBin, binI, cmpA, cmpI, cmpB, truthA, wGetA, getF, wGetI, wSetA, putF, wSetI, wApp, rangeA, List.append_eq, List.cons_append, List.nil_append, List.length_cons, List.length_nil, List.replicate, ↓reduceIte, Nat.reduceEqDiff, if_true, if_false, List.getElem?_cons_zero, List.getElem?_cons_succ, Int.toNat_zero, Int.toNat_one, Nat.reduceAdd, Nat.reduceSub, Int.toNat_natCast, Int.reduceToNat, band_nat, bor_nat, bxor_nat, bandn_nat, band_7, band_15, band_1, bor_0, shr_1, shr_2, shr_3, shr_4, shr_8, shr_16, shr_32, shl_1, shr_v]
  refine st_loop ⟨b + 1, ?_⟩
  refine sq_outer (b₀ := b) (fun L sq hL => nx_next (st_ret ?_)) (b + 1) b (by omega) 0 [] ⟨fun i => by simp, by simpa using hb, by simp⟩
  simp only [wE, wEs, wT, wVar, lget, lset, wBin, binI, cmpA, cmpI, cmpB, truthA, wGetA, getF, wGetI, wSetA, putF, wSetI, wApp, rangeA, List.append_eq, List.cons_append, List.nil_append, List.length_cons, List.length_nil, List.replicate, ↓reduceIte, Nat.reduceEqDiff, if_true, if_false, List.getElem?_cons_zero, List.getElem?_cons_succ, Int.toNat_zero, Int.toNat_one, Nat.reduceAdd, Nat.reduceSub, Int.toNat_natCast, Int.reduceToNat, band_nat, bor_nat, bxor_nat, bandn_nat, band_7, band_15, band_1, bor_0, shr_1, shr_2, shr_3, shr_4, shr_8, shr_16, shr_32, shl_1, shr_v]
  exact q L _ hL Ext.app (by simp)
end Mine

namespace Mine
theorem app_at (H t : Hp) (k : Nat) : (H ++ t)[H.length + k]? = t[k]? := by
  rw [List.getElem?_append_right (by omega)]; congr 1; omega
theorem app_at0 (H t : Hp) : (H ++ t)[H.length]? = t[0]? := app_at H t 0
theorem app_set (H t : Hp) (o : AO) : (H ++ t).set H.length o = H ++ t.set 0 o := by
  rw [List.set_append_right _ _ (Nat.le_refl _), Nat.sub_self]
theorem repA_zero : ∀ n, repA n [.int 0] = zeros n
  | 0 => rfl
  | n + 1 => by rw [repA, repA_zero n]; rfl
noncomputable abbrev Ini (H : Hp) (Q : AV → Hp → Prop) : Cont := fun fl _ H' => match retOf fl with
  | .none => Q (.ref (H.length + 1)) H'
  | _ => False
theorem body_Position : ∀ args H Q, W21 args H Q → args.length + 1 = 3 ∧ wSs (Oo 1) b_Position (.ref (H.length + 1) :: args ++ List.replicate (3 - 3) .undef) (H ++ [.dict [], .inst H.length]) (Ini H Q) := by
  rintro args H Q ⟨f, r, rfl, G, q⟩
  refine ⟨rfl, ?_⟩
  have hle := G.sz.le
  have Gx : ∀ t, GeoAt (H ++ t) f r := fun t => G.ext ⟨t, rfl⟩
  unfold b_Position
  refine st_attrSet ?_
  simp only [wE, wEs, wT, wVar, lget, lset, wBin, binI, cmpA, cmpI, cmpB, truthA, wGetA, getF, wGetI, wSetA, putF, wSetI, wApp, rangeA, List.append_eq, List.cons_append, List.nil_append, List.length_cons, List.length_nil, List.replicate, ↓reduceIte, Nat.reduceEqDiff, if_true, if_false, List.getElem?_cons_zero, List.getElem?_cons_succ, Int.toNat_zero, Int.toNat_one, Nat.reduceAdd, Nat.reduceSub, Int.toNat_natCast, Int.reduceToNat, band_nat, bor_nat, bxor_nat, bandn_nat, band_7, band_15, band_1, bor_0, shr_1, shr_2, shr_3, shr_4, shr_8, shr_16, shr_32, shl_1, shr_v, app_at, app_at0, app_set, List.set_cons_zero]
  refine ⟨by decide, st_attrSet ?_⟩
  simp only [wE, wEs, wT, wVar, lget, lset, wBin, binI, cmpA, cmpI, cmpB, truthA, wGetA, getF, wGetI, wSetA, putF, wSetI, wApp, rangeA, List.append_eq, List.cons_append, List.nil_append, List.length_cons, List.length_nil, List.replicate, ↓reduceIte, Nat.reduceEqDiff, if_true, if_false, List.getElem?_cons_zero, List.getElem?_cons_succ, Int.toNat_zero, Int.toNat_one, Nat.reduceAdd, Nat.reduceSub, Int.toNat_natCast, Int.reduceToNat, band_nat, bor_nat, bxor_nat, bandn_nat, band_7, band_15, band_1, bor_0, shr_1, shr_2, shr_3, shr_4, shr_8, shr_16, shr_32, shl_1, shr_v, app_at, app_at0, app_set, List.set_cons_zero]
  refine ⟨by decide, st_attrSet ?_⟩
  simp only [wE, wEs, wT, wVar, lget, lset, wBin, binI, cmpA, cmpI, cmpB, truthA, wGetA, getF, wGetI, wSetA, putF, wSetI, wApp, rangeA, List.append_eq, List.cons_append, List.nil_append, List.length_cons, List.length_nil, List.replicate, ↓reduceIte, Nat.reduceEqDiff, if_true, if_false, List.getElem?_cons_zero, List.getElem?_cons_succ, Int.toNat_zero, Int.toNat_one, Nat.reduceAdd, Nat.reduceSub, Int.toNat_natCast, Int.reduceToNat, band_nat, bor_nat, bxor_nat, bandn_nat, band_7, band_15, band_1, bor_0, shr_1, shr_2, shr_3, shr_4, shr_8, shr_16, shr_32, shl_1, shr_v, (Gx _).i, (Gx _).d, geoD, List.append_assoc, List.length_append, repA_zero, app_at, app_at0, app_set, List.set_cons_zero]
  refine ⟨by decide, ⟨by decide, by omega, by omega, by decide⟩, by decide, st_attrSet ?_⟩
  simp only [wE, wEs, wT, wVar, lget, lset, wBin, binI, cmpA, cmpI, cmpB, truthA, wGetA, getF, wGetI, wSetA, putF, wSetI, wApp, rangeA, List.append_eq, List.cons_append, List.nil_append, List.length_cons, List.length_nil, List.replicate, ↓reduceIte, Nat.reduceEqDiff, if_true, if_false, List.getElem?_cons_zero, List.getElem?_cons_succ, Int.toNat_zero, Int.toNat_one, Nat.reduceAdd, Nat.reduceSub, Int.toNat_natCast, Int.reduceToNat, band_nat, bor_nat, bxor_nat, bandn_nat, band_7, band_15, band_1, bor_0, shr_1, shr_2, shr_3, shr_4, shr_8, shr_16, shr_32, shl_1, shr_v, List.append_assoc, List.length_append, repA_zero, app_at, app_at0, app_set, List.set_cons_zero]
  refine ⟨by decide, ⟨by decide, by decide, by decide, by decide⟩, by decide, st_attrSet ?_⟩
  simp only [wE, wEs, wT, wVar, lget, lset, wBin, binI, cmpA, cmpI, cmpB, truthA, wGetA, getF, wGetI, wSetA, putF, wSetI, wApp, rangeA, List.append_eq, List.cons_append, List.nil_append, List.length_cons, List.length_nil, List.replicate, ↓reduceIte, Nat.reduceEqDiff, if_true, if_false, List.getElem?_cons_zero, List.getElem?_cons_succ, Int.toNat_zero, Int.toNat_one, Nat.reduceAdd, Nat.reduceSub, Int.toNat_natCast, Int.reduceToNat, band_nat, bor_nat, bxor_nat, bandn_nat, band_7, band_15, band_1, bor_0, shr_1, shr_2, shr_3, shr_4, shr_8, shr_16, shr_32, shl_1, shr_v, List.append_assoc, List.length_append, repA_zero, app_at, app_at0, app_set, List.set_cons_zero]
  refine ⟨by decide, by decide, st_attrSet ?_⟩
  simp only [wE, wEs, wT, wVar, lget, lset, wBin, binI, cmpA, cmpI, cmpB, truthA, wGetA, getF, wGetI, wSetA, putF, wSetI, wApp, rangeA, List.append_eq, List.cons_append, List.nil_append, List.length_cons, List.length_nil, List.replicate, ↓reduceIte, Nat.reduceEqDiff, if_true, if_false, List.getElem?_cons_zero, List.getElem?_cons_succ, Int.toNat_zero, Int.toNat_one, Nat.reduceAdd, Nat.reduceSub, Int.toNat_natCast, Int.reduceToNat, band_nat, bor_nat, bxor_nat, bandn_nat, band_7, band_15, band_1, bor_0, shr_1, shr_2, shr_3, shr_4, shr_8, shr_16, shr_32, shl_1, shr_v, app_at, app_at0, app_set, List.set_cons_zero]
  refine ⟨by decide, st_attrSet ?_⟩
  simp only [wE, wEs, wT, wVar, lget, lset, wBin, binI, cmpA, cmpI, cmpB, truthA, wGetA, getF, wGetI, wSetA, putF, wSetI, wApp, rangeA, List.append_eq, List.cons_append, List.nil_append, List.length_cons, List.length_nil, List.replicate, ↓reduceIte, Nat.reduceEqDiff, if_true, if_false, List.getElem?_cons_zero, List.getElem?_cons_succ, Int.toNat_zero, Int.toNat_one, Nat.reduceAdd, Nat.reduceSub, Int.toNat_natCast, Int.reduceToNat, band_nat, bor_nat, bxor_nat, bandn_nat, band_7, band_15, band_1, bor_0, shr_1, shr_2, shr_3, shr_4, shr_8, shr_16, shr_32, shl_1, shr_v, app_at, app_at0, app_set, List.set_cons_zero]
  refine ⟨by decide, st_attrSet ?_⟩
  simp only [wE, wEs, wT, wVar, lget, lset, wBin, binI, cmpA, cmpI, cmpB, truthA, wGetA, getF, wGetI, wSetA, putF, wSetI, wApp, rangeA, List.append_eq, List.cons_append, List.nil_append, List.length_cons, List.length_nil, List.replicate, ↓reduceIte, Nat.reduceEqDiff, if_true, if_false, List.getElem?_cons_zero, List.getElem?_cons_succ, Int.toNat_zero, Int.toNat_one, Nat.reduceAdd, Nat.reduceSub, Int.toNat_natCast, Int.reduceToNat, band_nat, bor_nat, bxor_nat, bandn_nat, band_7, band_15, band_1, bor_0, shr_1, shr_2, shr_3, shr_4, shr_8, shr_16, shr_32, shl_1, shr_v, app_at, app_at0, app_set, List.set_cons_zero]
  refine ⟨by decide, st_attrSet ?_⟩
  simp only [wE, wEs, wT, wVar, lget, lset, wBin, binI, cmpA, cmpI, cmpB, truthA, wGetA, getF, wGetI, wSetA, putF, wSetI, wApp, rangeA, List.append_eq, List.cons_append, List.nil_append, List.length_cons, List.length_nil, List.replicate, ↓reduceIte, Nat.reduceEqDiff, if_true, if_false, List.getElem?_cons_zero, List.getElem?_cons_succ, Int.toNat_zero, Int.toNat_one, Nat.reduceAdd, Nat.reduceSub, Int.toNat_natCast, Int.reduceToNat, band_nat, bor_nat, bxor_nat, bandn_nat, band_7, band_15, band_1, bor_0, shr_1, shr_2, shr_3, shr_4, shr_8, shr_16, shr_32, shl_1, shr_v, app_at, app_at0, app_set, List.set_cons_zero]
  refine ⟨by decide, st_attrSet ?_⟩
  simp only [wE, wEs, wT, wVar, lget, lset, wBin, binI, cmpA, cmpI, cmpB, truthA, wGetA, getF, wGetI, wSetA, putF, wSetI, wApp, rangeA, List.append_eq, List.cons_append, List.nil_append, List.length_cons, List.length_nil, List.replicate, ↓reduceIte, Nat.reduceEqDiff, if_true, if_false, List.getElem?_cons_zero, List.getElem?_cons_succ, Int.toNat_zero, Int.toNat_one, Nat.reduceAdd, Nat.reduceSub, Int.toNat_natCast, Int.reduceToNat, band_nat, bor_nat, bxor_nat, bandn_nat, band_7, band_15, band_1, bor_0, shr_1, shr_2, shr_3, shr_4, shr_8, shr_16, shr_32, shl_1, shr_v, app_at, app_at0, app_set, List.set_cons_zero]
  refine ⟨by decide, st_attrSet ?_⟩
  simp only [wE, wEs, wT, wVar, lget, lset, wBin, binI, cmpA, cmpI, cmpB, truthA, wGetA, getF, wGetI, wSetA, putF, wSetI, wApp, rangeA, List.append_eq, List.cons_append, List.nil_append, List.length_cons, List.length_nil, List.replicate, ↓reduceIte, Nat.reduceEqDiff, if_true, if_false, List.getElem?_cons_zero, List.getElem?_cons_succ, Int.toNat_zero, Int.toNat_one, Nat.reduceAdd, Nat.reduceSub, Int.toNat_natCast, Int.reduceToNat, band_nat, bor_nat, bxor_nat, bandn_nat, band_7, band_15, band_1, bor_0, shr_1, shr_2, shr_3, shr_4, shr_8, shr_16, shr_32, shl_1, shr_v, app_at, app_at0, app_set, List.set_cons_zero]
  refine ⟨by decide, st_attrSet ?_⟩
  simp only [wE, wEs, wT, wVar, lget, lset, wBin, binI, cmpA, cmpI, cmpB, truthA, wGetA, getF, wGetI, wSetA, putF, wSetI, wApp, rangeA, List.append_eq, List.cons_append, List.nil_append, List.length_cons, List.length_nil, List.replicate, ↓reduceIte, Nat.reduceEqDiff, if_true, if_false, List.getElem?_cons_zero, List.getElem?_cons_succ, Int.toNat_zero, Int.toNat_one, Nat.reduceAdd, Nat.reduceSub, Int.toNat_natCast, Int.reduceToNat, band_nat, bor_nat, bxor_nat, bandn_nat, band_7, band_15, band_1, bor_0, shr_1, shr_2, shr_3, shr_4, shr_8, shr_16, shr_32, shl_1, shr_v, List.append_assoc, List.length_append, app_at, app_at0, app_set, List.set_cons_zero]
  refine ⟨by decide, by decide, st_nil ?_⟩
  exact q _ _
theorem ext_of {H H' : Hp} (h : ∀ i, i < H.length → H'[i]? = H[i]?) (hl : H.length ≤ H'.length) : Ext H H' := by
  refine ⟨H'.drop H.length, ?_⟩
  refine List.ext_getElem? fun i => ?_
  by_cases hi : i < H.length
  · rw [List.getElem?_append_left hi, h i hi]
  · rw [List.getElem?_append_right (by omega), List.getElem?_drop]
    congr 1; omega
theorem body_copy : Body 2 1 2 b_copy_position W27 := by
  rintro args H Q ⟨f, r, a, B, rfl, G, P, K, hH, q⟩
  refine ⟨rfl, ?_⟩
  have hle := G.sz.le
  have hbl : (intsA B.bo).length ≤ 1000 := by rw [intsA_len, K.bl]; omega
  have hkl : (intsA B.ki).length ≤ 1000 := by rw [intsA_len, K.kl]; omega
  have Px : ∀ t, PosAt (H ++ t) a B := fun t => P.ext ⟨t, rfl⟩
  have fin : ∀ D g1 g2 g3 g4 g5 g6, D = posD H.length (H.length + 8) (H.length + 9) (H.length + 10) (H.length + 11) B.side → Q (.ref (H.length + 1)) (H ++ [.dict D, .inst H.length, g1, g2, g3, g4, g5, g6, .list (intsA B.bo), .list (intsA B.ki), .list (intsA [B.s0, B.s1]), .list []]) := by
    intro D g1 g2 g3 g4 g5 g6 hD
    subst hD
    exact q ⟨H.length + 1, H.length, H.length + 8, H.length + 9, H.length + 10, H.length + 11⟩ _ ⟨app_at _ _ 1, app_at0 _ _, app_at _ _ 8, app_at _ _ 9, app_at _ _ 10, app_at _ _ 11⟩ Ext.app
      ⟨by refine ⟨?_, ?_, ?_, ?_, ?_, ?_⟩ <;> dsimp only <;> omega, by refine ⟨?_, ?_, ?_, ?_, ?_⟩ <;> dsimp only <;> omega, by refine ⟨?_, ?_, ?_, ?_⟩ <;> dsimp only <;> omega, by refine ⟨?_, ?_, ?_⟩ <;> dsimp only <;> omega, by refine ⟨?_, ?_, ?_⟩ <;> dsimp only <;> omega⟩
      (by refine ⟨?_, ?_, ?_, ?_, ?_⟩ <;> dsimp only <;> omega)
  unfold b_copy_position
  refine st_assign ?_
  simp only [wE, wEs, wT, wVar, lget, lset, wBin, binI, cmpA, cmpI, cmpB, truthA, wGetA, getF, wGetI, wSetA, putF, wSetI, wApp, rangeA, List.append_eq, List.cons_append, List.nil_append, List.length_cons, List.length_nil, List.replicate, ↓reduceIte, Nat.reduceEqDiff, if_true, if_false, List.getElem?_cons_zero, List.getElem?_cons_succ, Int.toNat_zero, Int.toNat_one, Nat.reduceAdd, Nat.reduceSub, Int.toNat_natCast, Int.reduceToNat, band_nat, bor_nat, bxor_nat, bandn_nat, band_7, band_15, band_1, bor_0, shr_1, shr_2, shr_3, shr_4, shr_8, shr_16, shr_32, shl_1, shr_v, P.i, P.d, posD]
  refine ⟨by decide, .inr ⟨f, r, rfl, G, fun g1 g2 => st_attrSet ?_⟩⟩
  simp only [wE, wEs, wT, wVar, lget, lset, wBin, binI, cmpA, cmpI, cmpB, truthA, wGetA, getF, wGetI, wSetA, putF, wSetI, wApp, rangeA, List.append_eq, List.cons_append, List.nil_append, List.length_cons, List.length_nil, List.replicate, ↓reduceIte, Nat.reduceEqDiff, if_true, if_false, List.getElem?_cons_zero, List.getElem?_cons_succ, Int.toNat_zero, Int.toNat_one, Nat.reduceAdd, Nat.reduceSub, Int.toNat_natCast, Int.reduceToNat, band_nat, bor_nat, bxor_nat, bandn_nat, band_7, band_15, band_1, bor_0, shr_1, shr_2, shr_3, shr_4, shr_8, shr_16, shr_32, shl_1, shr_v, (Px _).i, (Px _).d, (Px _).bo, (Px _).ki, (Px _).si, (Px _).hs, posD, List.append_assoc, List.length_append, app_at, app_at0, app_set, List.set_cons_zero]
  refine ⟨by assumption, by decide, st_attrSet ?_⟩
  simp only [wE, wEs, wT, wVar, lget, lset, wBin, binI, cmpA, cmpI, cmpB, truthA, wGetA, getF, wGetI, wSetA, putF, wSetI, wApp, rangeA, List.append_eq, List.cons_append, List.nil_append, List.length_cons, List.length_nil, List.replicate, ↓reduceIte, Nat.reduceEqDiff, if_true, if_false, List.getElem?_cons_zero, List.getElem?_cons_succ, Int.toNat_zero, Int.toNat_one, Nat.reduceAdd, Nat.reduceSub, Int.toNat_natCast, Int.reduceToNat, band_nat, bor_nat, bxor_nat, bandn_nat, band_7, band_15, band_1, bor_0, shr_1, shr_2, shr_3, shr_4, shr_8, shr_16, shr_32, shl_1, shr_v, (Px _).i, (Px _).d, (Px _).bo, (Px _).ki, (Px _).si, (Px _).hs, posD, List.append_assoc, List.length_append, app_at, app_at0, app_set, List.set_cons_zero]
  refine ⟨by assumption, by decide, st_attrSet ?_⟩
  simp only [wE, wEs, wT, wVar, lget, lset, wBin, binI, cmpA, cmpI, cmpB, truthA, wGetA, getF, wGetI, wSetA, putF, wSetI, wApp, rangeA, List.append_eq, List.cons_append, List.nil_append, List.length_cons, List.length_nil, List.replicate, ↓reduceIte, Nat.reduceEqDiff, if_true, if_false, List.getElem?_cons_zero, List.getElem?_cons_succ, Int.toNat_zero, Int.toNat_one, Nat.reduceAdd, Nat.reduceSub, Int.toNat_natCast, Int.reduceToNat, band_nat, bor_nat, bxor_nat, bandn_nat, band_7, band_15, band_1, bor_0, shr_1, shr_2, shr_3, shr_4, shr_8, shr_16, shr_32, shl_1, shr_v, (Px _).i, (Px _).d, (Px _).bo, (Px _).ki, (Px _).si, (Px _).hs, posD, List.append_assoc, List.length_append, app_at, app_at0, app_set, List.set_cons_zero]
  refine ⟨by rw [intsA_len]; exact Nat.le_of_lt_succ (by decide : 2 < 1001), by decide, st_attrSet ?_⟩
  simp only [wE, wEs, wT, wVar, lget, lset, wBin, binI, cmpA, cmpI, cmpB, truthA, wGetA, getF, wGetI, wSetA, putF, wSetI, wApp, rangeA, List.append_eq, List.cons_append, List.nil_append, List.length_cons, List.length_nil, List.replicate, ↓reduceIte, Nat.reduceEqDiff, if_true, if_false, List.getElem?_cons_zero, List.getElem?_cons_succ, Int.toNat_zero, Int.toNat_one, Nat.reduceAdd, Nat.reduceSub, Int.toNat_natCast, Int.reduceToNat, band_nat, bor_nat, bxor_nat, bandn_nat, band_7, band_15, band_1, bor_0, shr_1, shr_2, shr_3, shr_4, shr_8, shr_16, shr_32, shl_1, shr_v, (Px _).i, (Px _).d, (Px _).bo, (Px _).ki, (Px _).si, (Px _).hs, posD, List.append_assoc, List.length_append, app_at, app_at0, app_set, List.set_cons_zero]
  refine ⟨by decide, st_attrSet ?_⟩
  simp only [wE, wEs, wT, wVar, lget, lset, wBin, binI, cmpA, cmpI, cmpB, truthA, wGetA, getF, wGetI, wSetA, putF, wSetI, wApp, rangeA, List.append_eq, List.cons_append, List.nil_append, List.length_cons, List.length_nil, List.replicate, ↓reduceIte, Nat.reduceEqDiff, if_true, if_false, List.getElem?_cons_zero, List.getElem?_cons_succ, Int.toNat_zero, Int.toNat_one, Nat.reduceAdd, Nat.reduceSub, Int.toNat_natCast, Int.reduceToNat, band_nat, bor_nat, bxor_nat, bandn_nat, band_7, band_15, band_1, bor_0, shr_1, shr_2, shr_3, shr_4, shr_8, shr_16, shr_32, shl_1, shr_v, (Px _).i, (Px _).d, (Px _).bo, (Px _).ki, (Px _).si, (Px _).hs, posD, List.append_assoc, List.length_append, app_at, app_at0, app_set, List.set_cons_zero]
  refine ⟨by decide, st_attrSet ?_⟩
  simp only [wE, wEs, wT, wVar, lget, lset, wBin, binI, cmpA, cmpI, cmpB, truthA, wGetA, getF, wGetI, wSetA, putF, wSetI, wApp, rangeA, List.append_eq, List.cons_append, List.nil_append, List.length_cons, List.length_nil, List.replicate, ↓reduceIte, Nat.reduceEqDiff, if_true, if_false, List.getElem?_cons_zero, List.getElem?_cons_succ, Int.toNat_zero, Int.toNat_one, Nat.reduceAdd, Nat.reduceSub, Int.toNat_natCast, Int.reduceToNat, band_nat, bor_nat, bxor_nat, bandn_nat, band_7, band_15, band_1, bor_0, shr_1, shr_2, shr_3, shr_4, shr_8, shr_16, shr_32, shl_1, shr_v, (Px _).i, (Px _).d, (Px _).bo, (Px _).ki, (Px _).si, (Px _).hs, posD, List.append_assoc, List.length_append, app_at, app_at0, app_set, List.set_cons_zero]
  refine ⟨by decide, st_attrSet ?_⟩
  simp only [wE, wEs, wT, wVar, lget, lset, wBin, binI, cmpA, cmpI, cmpB, truthA, wGetA, getF, wGetI, wSetA, putF, wSetI, wApp, rangeA, List.append_eq, List.cons_append, List.nil_append, List.length_cons, List.length_nil, List.replicate, ↓reduceIte, Nat.reduceEqDiff, if_true, if_false, List.getElem?_cons_zero, List.getElem?_cons_succ, Int.toNat_zero, Int.toNat_one, Nat.reduceAdd, Nat.reduceSub, Int.toNat_natCast, Int.reduceToNat, band_nat, bor_nat, bxor_nat, bandn_nat, band_7, band_15, band_1, bor_0, shr_1, shr_2, shr_3, shr_4, shr_8, shr_16, shr_32, shl_1, shr_v, (Px _).i, (Px _).d, (Px _).bo, (Px _).ki, (Px _).si, (Px _).hs, posD, List.append_assoc, List.length_append, app_at, app_at0, app_set, List.set_cons_zero]
  refine ⟨by decide, st_attrSet ?_⟩
  simp only [wE, wEs, wT, wVar, lget, lset, wBin, binI, cmpA, cmpI, cmpB, truthA, wGetA, getF, wGetI, wSetA, putF, wSetI, wApp, rangeA, List.append_eq, List.cons_append, List.nil_append, List.length_cons, List.length_nil, List.replicate, ↓reduceIte, Nat.reduceEqDiff, if_true, if_false, List.getElem?_cons_zero, List.getElem?_cons_succ, Int.toNat_zero, Int.toNat_one, Nat.reduceAdd, Nat.reduceSub, Int.toNat_natCast, Int.reduceToNat, band_nat, bor_nat, bxor_nat, bandn_nat, band_7, band_15, band_1, bor_0, shr_1, shr_2, shr_3, shr_4, shr_8, shr_16, shr_32, shl_1, shr_v, (Px _).i, (Px _).d, (Px _).bo, (Px _).ki, (Px _).si, (Px _).hs, posD, List.append_assoc, List.length_append, app_at, app_at0, app_set, List.set_cons_zero]
  refine ⟨by decide, st_attrSet ?_⟩
  simp only [wE, wEs, wT, wVar, lget, lset, wBin, binI, cmpA, cmpI, cmpB, truthA, wGetA, getF, wGetI, wSetA, putF, wSetI, wApp, rangeA, List.append_eq, List.cons_append, List.nil_append, List.length_cons, List.length_nil, List.replicate, ↓reduceIte, Nat.reduceEqDiff, if_true, if_false, List.getElem?_cons_zero, List.getElem?_cons_succ, Int.toNat_zero, Int.toNat_one, Nat.reduceAdd, Nat.reduceSub, Int.toNat_natCast, Int.reduceToNat, band_nat, bor_nat, bxor_nat, bandn_nat, band_7, band_15, band_1, bor_0, shr_1, shr_2, shr_3, shr_4, shr_8, shr_16, shr_32, shl_1, shr_v, (Px _).i, (Px _).d, (Px _).bo, (Px _).ki, (Px _).si, (Px _).hs, posD, List.append_assoc, List.length_append, app_at, app_at0, app_set, List.set_cons_zero]
  refine ⟨by decide, st_attrSet ?_⟩
  simp only [wE, wEs, wT, wVar, lget, lset, wBin, binI, cmpA, cmpI, cmpB, truthA, wGetA, getF, wGetI, wSetA, putF, wSetI, wApp, rangeA, List.append_eq, List.cons_append, List.nil_append, List.length_cons, List.length_nil, List.replicate, ↓reduceIte, Nat.reduceEqDiff, if_true, if_false, List.getElem?_cons_zero, List.getElem?_cons_succ, Int.toNat_zero, Int.toNat_one, Nat.reduceAdd, Nat.reduceSub, Int.toNat_natCast, Int.reduceToNat, band_nat, bor_nat, bxor_nat, bandn_nat, band_7, band_15, band_1, bor_0, shr_1, shr_2, shr_3, shr_4, shr_8, shr_16, shr_32, shl_1, shr_v, (Px _).i, (Px _).d, (Px _).bo, (Px _).ki, (Px _).si, (Px _).hs, posD, List.append_assoc, List.length_append, app_at, app_at0, app_set, List.set_cons_zero]
  refine ⟨by decide, by decide, st_ret ?_⟩
  simp only [wE, wEs, wT, wVar, lget, lset, wBin, binI, cmpA, cmpI, cmpB, truthA, wGetA, getF, wGetI, wSetA, putF, wSetI, wApp, rangeA, List.append_eq, List.cons_append, List.nil_append, List.length_cons, List.length_nil, List.replicate, ↓reduceIte, Nat.reduceEqDiff, if_true, if_false, List.getElem?_cons_zero, List.getElem?_cons_succ, Int.toNat_zero, Int.toNat_one, Nat.reduceAdd, Nat.reduceSub, Int.toNat_natCast, Int.reduceToNat, band_nat, bor_nat, bxor_nat, bandn_nat, band_7, band_15, band_1, bor_0, shr_1, shr_2, shr_3, shr_4, shr_8, shr_16, shr_32, shl_1, shr_v]
  exact fin _ _ _ _ _ _ _ rfl
/-! covered_by -/
section
variable {O : Orc} {l : List AV} {H : Hp} {Q : Cont} {B : Tr} {x : Nat}
theorem iter_list {k : Nat} {vs : List AV} (e : H[k]? = some (.list vs)) (h : wFor (fun H => H[k]? = some (.list vs)) B x vs l H Q) : wIter B x (.ref k) l H Q := by
  unfold wIter; dsimp only; rw [e]; exact h
theorem iter_tup {k : Nat} {vs : List AV} (e : H[k]? = some (.tup vs)) (h : wFor (fun H => H[k]? = some (.tup vs)) B x vs l H Q) : wIter B x (.ref k) l H Q := by
  unfold wIter; dsimp only; rw [e]; exact h
end
noncomputable def cvI : List S := [.augN 3 .BitOr (.call 20 [(.attr (.var 0) 14), (.var 1), (.var 4), (.var 5), (.var 2)])]
theorem cov_in {G : Hp → Prop} {f r : Nat} {a : PA} {B : Bd} {side k occ : Nat} {H : Hp} {K : Cont} (g : G H) (GP : PosG H f r a B) (hside : side < 2) :
    ∀ (l : List Nat) (c : Nat) (x : AV), (∀ s ∈ l, s < f * r) → (∀ c' x, (∀ t, c'.testBit t = true ↔ c.testBit t = true ∨ ∃ s ∈ l, (pieceAtt f r side k s occ).testBit t = true) → K .next [.ref a.p, .int side, .int occ, .int ((c' : Nat) : Int), .int k, x] H) →
      wFor G (wSs (Oo 6) cvI) 5 (intsA l) [.ref a.p, .int side, .int occ, .int c, .int k, x] H K
  | [], c, x, hs, q => for_nil g (q c x fun t => by simp)
  | s :: l, c, x, hs, q => by
    have P := GP.2.1
    refine for_cons g ?_
    unfold cvI
    refine st_augN ?_
    simp only [wE, wEs, wT, wVar, lget, lset, wBin, binI, cmpA, cmpI, cmpB, truthA, wGetA, getF, wGetI, wSetA, putF, wSetI, wApp, rangeA, List.append_eq, List.cons_append, List.nil_append, List.length_cons, List.length_nil, List.replicate, ↓reduceIte, Nat.reduceEqDiff, if_true, if_false, List.getElem?_cons_zero, List.getElem?_cons_succ, Int.toNat_zero, Int.toNat_one, Nat.reduceAdd, Nat.reduceSub, Int.toNat_natCast, Int.reduceToNat, band_nat, bor_nat, bxor_nat, bandn_nat, band_7, band_15, band_1, bor_0, shr_1, shr_2, shr_3, shr_4, shr_8, shr_16, shr_32, shl_1, shr_v, P.i, P.d, posD]
    refine ⟨by decide, .inr ⟨f, r, side, k, s, occ, rfl, GP.1, hside, hs s (.head _), ?_⟩⟩
    simp only [wE, wEs, wT, wVar, lget, lset, wBin, binI, cmpA, cmpI, cmpB, truthA, wGetA, getF, wGetI, wSetA, putF, wSetI, wApp, rangeA, List.append_eq, List.cons_append, List.nil_append, List.length_cons, List.length_nil, List.replicate, ↓reduceIte, Nat.reduceEqDiff, if_true, if_false, List.getElem?_cons_zero, List.getElem?_cons_succ, Int.toNat_zero, Int.toNat_one, Nat.reduceAdd, Nat.reduceSub, Int.toNat_natCast, Int.reduceToNat, band_nat, bor_nat, bxor_nat, bandn_nat, band_7, band_15, band_1, bor_0, shr_1, shr_2, shr_3, shr_4, shr_8, shr_16, shr_32, shl_1, shr_v]
    refine st_nil (fx_next (cov_in g GP hside l _ _ (fun s h => hs s (.tail _ h)) fun c' x h => q c' x fun t => ?_))
    rw [h t, Nat.testBit_or, Bool.or_eq_true]
    simp only [List.mem_cons, exists_eq_or_imp, or_assoc]
noncomputable def cvO : List S := [.forV 5 (.call 5 [(.bin .BitAnd (.sub (.attr (.var 0) 17) (.var 4)) (.sub (.attr (.var 0) 18) (.var 1)))]) cvI]
theorem lt16 {x n : Nat} (hn : n ≤ 16) (h : ∀ s, x.testBit s = true → s < n) : x < 2 ^ 16 := by
  refine Nat.lt_pow_two_of_testBit _ fun i hi => ?_
  cases e : x.testBit i with
  | false => rfl
  | true => have := h i e; omega
theorem sd_bits {f r : Nat} {B : Bd} (K : BdOk f r B) {side s : Nat} (h : (B.sd side).testBit s = true) : s < f * r := by
  unfold Bd.sd at h
  split at h
  · exact K.b0 s h
  · exact K.b1 s h
theorem cov_out {f r : Nat} {a : PA} {B : Bd} {side occ : Nat} {H0 : Hp} {K : Cont} {T : Nat} {vs : List AV} (hside : side < 2) :
    ∀ (ks : List Nat) (c : Nat) (x y : AV) (H : Hp), (∀ k ∈ ks, 1 ≤ k ∧ k ≤ 6) → PosG H f r a B → H[T]? = some (.tup vs) → Ext H0 H →
      (∀ c' x y H', Ext H0 H' → (∀ t, c'.testBit t = true ↔ c.testBit t = true ∨ ∃ k ∈ ks, ∃ s, (B.kd k &&& B.sd side).testBit s = true ∧ (pieceAtt f r side k s occ).testBit t = true) → K .next [.ref a.p, .int side, .int occ, .int ((c' : Nat) : Int), x, y] H') →
      wFor (fun H => H[T]? = some (.tup vs)) (wSs (Oo 6) cvO) 4 (intsA ks) [.ref a.p, .int side, .int occ, .int c, x, y] H K
  | [], c, x, y, H, hk, GP, g, e, q => for_nil g (q c x y H e fun t => by simp)
  | k :: ks, c, x, y, H, hk, GP, g, e, q => by
    have P := GP.2.1
    have Kb := GP.2.2
    have hle := Kb.sz.le
    have hk1 := hk k (.head _)
    have e1 := ki_get Kb.kl (k := k) (by omega)
    have e2 := sd_get (B := B) hside
    have hb : ∀ s, (B.kd k &&& B.sd side).testBit s = true → s < f * r := fun s hs => by
      rw [Nat.testBit_and, Bool.and_eq_true] at hs
      exact sd_bits Kb hs.2
    refine for_cons g ?_
    unfold cvO
    refine st_forV ?_
    simp only [wE, wEs, wT, wVar, lget, lset, wBin, binI, cmpA, cmpI, cmpB, truthA, wGetA, getF, wGetI, wSetA, putF, wSetI, wApp, rangeA, List.append_eq, List.cons_append, List.nil_append, List.length_cons, List.length_nil, List.replicate, ↓reduceIte, Nat.reduceEqDiff, if_true, if_false, List.getElem?_cons_zero, List.getElem?_cons_succ, Int.toNat_zero, Int.toNat_one, Nat.reduceAdd, Nat.reduceSub, Int.toNat_natCast, Int.reduceToNat, band_nat, bor_nat, bxor_nat, bandn_nat, band_7, band_15, band_1, bor_0, shr_1, shr_2, shr_3, shr_4, shr_8, shr_16, shr_32, shl_1, shr_v, P.i, P.d, P.ki, P.si, posD, e1, e2]
    refine ⟨by omega, by omega, by decide, .inr ⟨B.kd k &&& B.sd side, rfl, lt16 hle.2 hb, fun l H' hl hx hg => ?_⟩⟩
    refine iter_list hg (cov_in hg (GP.ext hx) hside l c _ (fun s hs => hb s ((hl s).mp hs)) fun c' x' h => nx_next (st_nil (fx_next ?_)))
    refine cov_out hside ks c' _ _ H' (fun k hk' => hk k (.tail _ hk')) (GP.ext hx) (hx.get g) (e.trans hx) fun c2 x2 y2 H2 e2 h2 => q c2 x2 y2 H2 e2 fun t => ?_
    rw [h2 t, h t]
    simp only [List.mem_cons, exists_eq_or_imp, or_assoc, hl]
theorem body_covered : Body 6 3 6 b_covered_by W39 := by
  rintro args H Q ⟨f, r, a, B, side, occ, rfl, GP, hside, q⟩
  refine ⟨rfl, ?_⟩
  unfold b_covered_by
  refine st_assign ?_
  simp only [wE, wEs, wT, wVar, lget, lset, wBin, binI, cmpA, cmpI, cmpB, truthA, wGetA, getF, wGetI, wSetA, putF, wSetI, wApp, rangeA, List.append_eq, List.cons_append, List.nil_append, List.length_cons, List.length_nil, List.replicate, ↓reduceIte, Nat.reduceEqDiff, if_true, if_false, List.getElem?_cons_zero, List.getElem?_cons_succ, Int.toNat_zero, Int.toNat_one, Nat.reduceAdd, Nat.reduceSub, Int.toNat_natCast, Int.reduceToNat, band_nat, bor_nat, bxor_nat, bandn_nat, band_7, band_15, band_1, bor_0, shr_1, shr_2, shr_3, shr_4, shr_8, shr_16, shr_32, shl_1, shr_v]
  refine st_forV ?_
  simp only [wE, wEs, wT, wVar, lget, lset, wBin, binI, cmpA, cmpI, cmpB, truthA, wGetA, getF, wGetI, wSetA, putF, wSetI, wApp, rangeA, List.append_eq, List.cons_append, List.nil_append, List.length_cons, List.length_nil, List.replicate, ↓reduceIte, Nat.reduceEqDiff, if_true, if_false, List.getElem?_cons_zero, List.getElem?_cons_succ, Int.toNat_zero, Int.toNat_one, Nat.reduceAdd, Nat.reduceSub, Int.toNat_natCast, Int.reduceToNat, band_nat, bor_nat, bxor_nat, bandn_nat, band_7, band_15, band_1, bor_0, shr_1, shr_2, shr_3, shr_4, shr_8, shr_16, shr_32, shl_1, shr_v]
  refine ⟨by decide, ?_⟩
  have hg : (H ++ [AO.tup (intsA [1, 2, 3, 4, 5, 6])])[H.length]? = some (.tup (intsA [1, 2, 3, 4, 5, 6])) := app_at0 _ _
  refine iter_tup hg (cov_out hside [1, 2, 3, 4, 5, 6] 0 _ _ _ (by decide) (GP.ext Ext.app) hg (Ext.app (H := H)) fun c' x y H' e h => nx_next (st_ret ?_))
  simp only [wE, wEs, wT, wVar, lget, lset, wBin, binI, cmpA, cmpI, cmpB, truthA, wGetA, getF, wGetI, wSetA, putF, wSetI, wApp, rangeA, List.append_eq, List.cons_append, List.nil_append, List.length_cons, List.length_nil, List.replicate, ↓reduceIte, Nat.reduceEqDiff, if_true, if_false, List.getElem?_cons_zero, List.getElem?_cons_succ, Int.toNat_zero, Int.toNat_one, Nat.reduceAdd, Nat.reduceSub, Int.toNat_natCast, Int.reduceToNat, band_nat, bor_nat, bxor_nat, bandn_nat, band_7, band_15, band_1, bor_0, shr_1, shr_2, shr_3, shr_4, shr_8, shr_16, shr_32, shl_1, shr_v]
  refine q c' H' (fun t => ?_) e
  rw [h t]
  simp only [Nat.zero_testBit, Bool.false_eq_true, false_or]
  constructor
  · rintro ⟨k, hk, s, h1, h2⟩
    have : ∀ k ∈ [1, 2, 3, 4, 5, 6], 1 ≤ k ∧ k ≤ 6 := by decide
    exact ⟨k, s, (this k hk).1, (this k hk).2, h1, h2⟩
  · rintro ⟨k, s, h0, h00, h1, h2⟩
    refine ⟨k, ?_, s, h1, h2⟩
    have : k = 1 ∨ k = 2 ∨ k = 3 ∨ k = 4 ∨ k = 5 ∨ k = 6 := by omega
    rcases this with rfl | rfl | rfl | rfl | rfl | rfl <;> simp
end Mine

namespace Mine
theorem and7 (p : Nat) : p &&& 7 = p % 8 := Nat.and_two_pow_sub_one_eq_mod p 3
theorem shr3 (p : Nat) : p >>> 3 = p / 8 := Nat.shiftRight_eq_div_pow p 3
theorem getD_set (l : List Nat) (i x j : Nat) : (l.set i x).getD j 0 = if i = j ∧ i < l.length then x else l.getD j 0 := by
  rw [List.getD_eq_getElem?_getD, List.getD_eq_getElem?_getD, List.getElem?_set]
  by_cases h : i = j
  · subst h
    by_cases hl : i < l.length
    · simp [hl]
    · simp [hl]
  · simp [h]
theorem sdSet_bo (B : Bd) (i v : Nat) : (sdSet B i v).bo = B.bo := by unfold sdSet; split <;> rfl
theorem sdSet_ki (B : Bd) (i v : Nat) : (sdSet B i v).ki = B.ki := by unfold sdSet; split <;> rfl
theorem sdSet_side (B : Bd) (i v : Nat) : (sdSet B i v).side = B.side := by unfold sdSet; split <;> rfl
theorem sdSet_sd (B : Bd) {i v j : Nat} (hi : i < 2) (hj : j < 2) : (sdSet B i v).sd j = if j = i then v else B.sd j := by
  have h1 : i = 0 ∨ i = 1 := by omega
  have h2 : j = 0 ∨ j = 1 := by omega
  rcases h1 with rfl | rfl <;> rcases h2 with rfl | rfl <;> rfl
theorem tb1 (s i : Nat) : (1 <<< s).testBit i = decide (s = i) := by rw [Nat.one_shiftLeft, Nat.testBit_two_pow]
theorem Man.of {p : Nat} (h : Man p) (h0 : p ≠ 0) : 1 ≤ p &&& 7 ∧ p &&& 7 ≤ 6 ∧ p >>> 3 < 2 ∧ p = (p >>> 3) * 8 + (p &&& 7) := by
  rw [and7, shr3]; unfold Man at h; omega
theorem Man.pok {p : Nat} (h : Man p) : POk p := by
  unfold POk; rw [and7]; unfold Man at h; omega
theorem BoardOk.inb {f r : Nat} {B : Bd} (h : BoardOk f r B) {s : Nat} (hs : B.bo.getD s 0 ≠ 0) : s < f * r := by
  rcases Nat.lt_or_ge s (f * r) with q | q
  · exact q
  · rw [List.getD_eq_getElem?_getD, List.getElem?_eq_none (by rw [h.bl]; exact q)] at hs
    exact absurd rfl hs
theorem BoardOk.bd {f r : Nat} {B : Bd} (h : BoardOk f r B) : BdOk f r B :=
  ⟨h.sz, h.bl, fun s => (h.man s).pok, h.kl, h.side, fun s q => h.inb ((h.sb 0 s (by decide)).mp q).1, fun s q => h.inb ((h.sb 1 s (by decide)).mp q).1⟩
theorem King1.lt {f r : Nat} {B : Bd} (h : BoardOk f r B) {i k : Nat} (hk : King1 B i k) : k < f * r := h.inb (by rw [(hk k).mpr rfl]; omega)
theorem King1.at {f r : Nat} {B : Bd} (h : BoardOk f r B) {i k : Nat} (hi : i < 2) (hk : King1 B i k) : KingAt f r B i k := by
  refine ⟨hk.lt h, ?_⟩
  apply Nat.eq_of_testBit_eq; intro s
  rw [Nat.testBit_and, tb1, Bool.eq_iff_iff, Bool.and_eq_true, h.sb i s hi, h.kb 6 s (by decide) (by decide), decide_eq_true_iff, eq_comm (a := k), ← hk s, and7, shr3]
  omega
/-- one man p is taken away or set, at the squares of a mask -/
theorem BoardOk.flip {f r : Nat} {B : Bd} (h : BoardOk f r B) {p M : Nat} {l : List Nat} (hp : Man p) (h0 : p ≠ 0) (hl : l.length = f * r)
    (h1 : ∀ i, M.testBit i = true → (B.bo.getD i 0 = p ∧ l.getD i 0 = 0) ∨ (B.bo.getD i 0 = 0 ∧ l.getD i 0 = p)) (h2 : ∀ i, M.testBit i = false → l.getD i 0 = B.bo.getD i 0) :
    BoardOk f r (sdSet { B with bo := l, ki := B.ki.set (p &&& 7) (B.kd (p &&& 7) ^^^ M) } (p >>> 3) (B.sd (p >>> 3) ^^^ M)) := by
  obtain ⟨p1, p2, p3, p4⟩ := hp.of h0
  refine ⟨h.sz, by rw [sdSet_bo]; exact hl, fun s => ?_, by rw [sdSet_ki, List.length_set]; exact h.kl, by rw [sdSet_side]; exact h.side, fun k s a b => ?_, fun i s a => ?_⟩
  · rw [sdSet_bo]
    show Man (l.getD s 0)
    cases e : M.testBit s with
    | true =>
      rcases h1 s e with ⟨_, q⟩ | ⟨_, q⟩
      · rw [q]; exact .inl rfl
      · rw [q]; exact hp
    | false => rw [h2 s e]; exact h.man s
  · rw [sdSet_bo]
    have hk : (sdSet { B with bo := l, ki := B.ki.set (p &&& 7) (B.kd (p &&& 7) ^^^ M) } (p >>> 3) (B.sd (p >>> 3) ^^^ M)).kd k = if p &&& 7 = k then B.kd k ^^^ M else B.kd k := by
      unfold Bd.kd
      rw [sdSet_ki]
      show (B.ki.set (p &&& 7) _).getD k 0 = _
      rw [getD_set]
      have := h.kl
      by_cases e : p &&& 7 = k
      · rw [if_pos ⟨e, by omega⟩, if_pos e, e]
      · rw [if_neg (fun q => e q.1), if_neg e]
    rw [hk]
    show _ ↔ l.getD s 0 &&& 7 = k
    have hb := h.kb k s a b
    cases e : M.testBit s with
    | true =>
      rcases h1 s e with ⟨q, q'⟩ | ⟨q, q'⟩
      · rw [q] at hb
        rw [q']
        split
        · rename_i z
          rw [Nat.testBit_xor, e, hb.mpr z]; simp; omega
        · rename_i z
          rw [hb]; simp; omega
      · rw [q] at hb
        rw [q']
        split
        · rename_i z
          have : (B.kd k).testBit s = false := by
            rw [Bool.eq_false_iff]; intro y
            have := hb.mp y
            simp at this; omega
          rw [Nat.testBit_xor, e, this]; simpa using z
        · rename_i z
          rw [hb]; simp; omega
    | false =>
      rw [h2 s e, ← hb]
      split
      · rw [Nat.testBit_xor, e, Bool.xor_false]
      · rfl
  · rw [sdSet_bo, sdSet_sd _ p3 a]
    show (if i = p >>> 3 then B.sd (p >>> 3) ^^^ M else B.sd i).testBit s = true ↔ l.getD s 0 ≠ 0 ∧ l.getD s 0 >>> 3 = i
    have hb := h.sb i s a
    cases e : M.testBit s with
    | true =>
      rcases h1 s e with ⟨q, q'⟩ | ⟨q, q'⟩
      · rw [q] at hb
        rw [q']
        split
        · rename_i z
          subst z
          rw [Nat.testBit_xor, e, hb.mpr ⟨h0, rfl⟩]; simp
        · rename_i z
          rw [hb]; simp; omega
      · rw [q] at hb
        rw [q']
        split
        · rename_i z
          subst z
          have : (B.sd (p >>> 3)).testBit s = false := by
            rw [Bool.eq_false_iff]; intro y
            exact (hb.mp y).1 rfl
          rw [Nat.testBit_xor, e, this]; simp [h0]
        · rename_i z
          rw [hb]
          exact ⟨fun q => absurd rfl q.1, fun q => absurd q.2.symm z⟩
    | false =>
      rw [h2 s e, ← hb]
      split
      · rename_i z
        subst z
        rw [Nat.testBit_xor, e, Bool.xor_false]
      · rfl
theorem or_xor {x s : Nat} (h : x.testBit s = false) : x ||| 1 <<< s = x ^^^ 1 <<< s := by
  apply Nat.eq_of_testBit_eq; intro i
  rw [Nat.testBit_or, Nat.testBit_xor, tb1]
  by_cases e : s = i
  · subst e; rw [h]; simp
  · simp [e]
theorem BoardOk.put {f r : Nat} {B : Bd} (h : BoardOk f r B) {p s : Nat} (hp : Man p) (h0 : p ≠ 0) (hs : s < f * r) (he : B.bo.getD s 0 = 0) : BoardOk f r (putB B p s) := by
  obtain ⟨p1, p2, p3, p4⟩ := hp.of h0
  have e1 : (B.kd (p &&& 7)).testBit s = false := by
    rw [Bool.eq_false_iff]; intro y
    have := (h.kb _ s p1 p2).mp y
    rw [he] at this; simp at this; omega
  have e2 : (B.sd (p >>> 3)).testBit s = false := by
    rw [Bool.eq_false_iff]; intro y
    exact ((h.sb _ s p3).mp y).1 he
  unfold putB
  rw [or_xor e1, or_xor e2]
  refine h.flip hp h0 (by rw [List.length_set]; exact h.bl) (fun i hi => ?_) fun i hi => ?_
  · rw [tb1] at hi
    have : s = i := of_decide_eq_true hi
    subst this
    exact .inr ⟨he, by rw [getD_set, if_pos ⟨rfl, by rw [h.bl]; exact hs⟩]⟩
  · rw [tb1] at hi
    rw [getD_set, if_neg fun q => of_decide_eq_false hi q.1]
theorem put_bo {B : Bd} {p s i : Nat} (hs : s < B.bo.length) : (putB B p s).bo.getD i 0 = if s = i then p else B.bo.getD i 0 := by
  unfold putB
  rw [sdSet_bo]
  show (B.bo.set s p).getD i 0 = _
  rw [getD_set]
  by_cases e : s = i
  · rw [if_pos ⟨e, hs⟩, if_pos e]
  · rw [if_neg (fun q => e q.1), if_neg e]
theorem put_side {B : Bd} {p s : Nat} : (putB B p s).side = B.side := by unfold putB; rw [sdSet_side]
theorem BoardOk.take {f r : Nat} {B : Bd} (h : BoardOk f r B) {s : Nat} (h0 : B.bo.getD s 0 ≠ 0) : BoardOk f r (takeB B s) := by
  have hs := h.inb h0
  unfold takeB
  dsimp only
  refine h.flip (h.man s) h0 (by rw [List.length_set]; exact h.bl) (fun i hi => ?_) fun i hi => ?_
  · rw [tb1] at hi
    have : s = i := of_decide_eq_true hi
    subst this
    exact .inl ⟨rfl, by rw [getD_set, if_pos ⟨rfl, by rw [h.bl]; exact hs⟩]⟩
  · rw [tb1] at hi
    rw [getD_set, if_neg fun q => of_decide_eq_false hi q.1]
theorem take_bo {B : Bd} {s i : Nat} (hs : s < B.bo.length) : (takeB B s).bo.getD i 0 = if s = i then 0 else B.bo.getD i 0 := by
  unfold takeB
  dsimp only
  rw [sdSet_bo]
  show (B.bo.set s 0).getD i 0 = _
  rw [getD_set]
  by_cases e : s = i
  · rw [if_pos ⟨e, hs⟩, if_pos e]
  · rw [if_neg (fun q => e q.1), if_neg e]
theorem take_side {B : Bd} {s : Nat} : (takeB B s).side = B.side := by unfold takeB; dsimp only; rw [sdSet_side]
theorem shift_bo {B : Bd} {x y i : Nat} (hx : x < B.bo.length) (hy : y < B.bo.length) (hn : x ≠ y) : (shiftB B x y).bo.getD i 0 = if y = i then B.bo.getD x 0 else if x = i then 0 else B.bo.getD i 0 := by
  unfold shiftB
  dsimp only
  rw [sdSet_bo]
  show ((B.bo.set x 0).set y _).getD i 0 = _
  rw [getD_set, getD_set, List.length_set]
  by_cases e : y = i
  · rw [if_pos ⟨e, hy⟩, if_pos e]
  · rw [if_neg (fun q => e q.1), if_neg e]
    by_cases e' : x = i
    · rw [if_pos ⟨e', hx⟩, if_pos e']
    · rw [if_neg (fun q => e' q.1), if_neg e']
theorem shift_side {B : Bd} {x y : Nat} : (shiftB B x y).side = B.side := by unfold shiftB; dsimp only; rw [sdSet_side]
theorem BoardOk.shift {f r : Nat} {B : Bd} (h : BoardOk f r B) {x y : Nat} (h0 : B.bo.getD x 0 ≠ 0) (he : B.bo.getD y 0 = 0) (hy : y < f * r) : BoardOk f r (shiftB B x y) := by
  have hx := h.inb h0
  have hn : x ≠ y := fun e => h0 (e ▸ he)
  have hb : ∀ i, ((B.bo.set x 0).set y (B.bo.getD x 0)).getD i 0 = if y = i then B.bo.getD x 0 else if x = i then 0 else B.bo.getD i 0 := fun i => by
    have := shift_bo (B := B) (i := i) (by rw [h.bl]; exact hx) (by rw [h.bl]; exact hy) hn
    unfold shiftB at this
    dsimp only at this
    rw [sdSet_bo] at this
    exact this
  unfold shiftB
  dsimp only
  refine h.flip (h.man x) h0 (by rw [List.length_set, List.length_set]; exact h.bl) (fun i hi => ?_) fun i hi => ?_
  · rw [Nat.testBit_or, tb1, tb1, Bool.or_eq_true, decide_eq_true_iff, decide_eq_true_iff] at hi
    rw [hb]
    rcases hi with rfl | rfl
    · left; rw [if_neg (Ne.symm hn), if_pos rfl]; exact ⟨rfl, rfl⟩
    · right; rw [if_pos rfl]; exact ⟨he, rfl⟩
  · rw [Nat.testBit_or, tb1, tb1, Bool.or_eq_false_iff, decide_eq_false_iff_not, decide_eq_false_iff_not] at hi
    rw [hb, if_neg hi.2, if_neg hi.1]
/-- the king's move -/
theorem move_ok {f r : Nat} {B : Bd} (h : BoardOk f r B) {k t : Nat} (hk : King1 B B.side k) (ht : t < f * r) (hn : t ≠ k) :
    BoardOk f r (moveB B k t) ∧ (moveB B k t).side = B.side ∧ King1 (moveB B k t) B.side t ∧ ∀ i, (moveB B k t).bo.getD i 0 = if t = i then B.side * 8 + 6 else if k = i then 0 else B.bo.getD i 0 := by
  have hkl := hk.lt h
  have ek := (hk k).mpr rfl
  have main : ∀ B1, BoardOk f r B1 → B1.side = B.side → B1.bo.getD t 0 = 0 → (∀ i, i ≠ t → B1.bo.getD i 0 = B.bo.getD i 0) → BoardOk f r (shiftB B1 k t) ∧ (shiftB B1 k t).side = B.side ∧ King1 (shiftB B1 k t) B.side t ∧ ∀ i, (shiftB B1 k t).bo.getD i 0 = if t = i then B.side * 8 + 6 else if k = i then 0 else B.bo.getD i 0 := by
    intro B1 h1 hs h2 h3
    have e1 : B1.bo.getD k 0 = B.side * 8 + 6 := by rw [h3 k (Ne.symm hn)]; exact ek
    have hb : ∀ i, (shiftB B1 k t).bo.getD i 0 = if t = i then B.side * 8 + 6 else if k = i then 0 else B.bo.getD i 0 := fun i => by
      rw [shift_bo (by rw [h1.bl]; exact hkl) (by rw [h1.bl]; exact ht) (Ne.symm hn), e1]
      by_cases e : t = i
      · rw [if_pos e, if_pos e]
      · rw [if_neg e, if_neg e, h3 i (Ne.symm e)]
    refine ⟨h1.shift (by rw [e1]; omega) h2 ht, by rw [shift_side, hs], fun i => ?_, hb⟩
    rw [hb i]
    by_cases e : t = i
    · rw [if_pos e]; exact ⟨fun _ => e.symm, fun _ => rfl⟩
    · rw [if_neg e]
      by_cases e' : k = i
      · rw [if_pos e']; exact ⟨fun q => by omega, fun q => absurd q.symm e⟩
      · rw [if_neg e', hk i]
        exact ⟨fun q => absurd q.symm e', fun q => absurd q.symm e⟩
  unfold moveB
  split
  · rename_i e
    exact main B h rfl e fun _ _ => rfl
  · rename_i e
    refine main _ (h.take e) take_side ?_ fun i hi => ?_
    · rw [take_bo (by rw [h.bl]; exact ht), if_pos rfl]
    · rw [take_bo (by rw [h.bl]; exact ht), if_neg (Ne.symm hi)]
end Mine

namespace Mine
theorem nez (n : Nat) : (((n : Int) != 0) : Bool) = (n != 0) := bz n
theorem But.hi {a : PA} {H H' : Hp} (b : But a H H') {n : Nat} (h : n ≤ a.pd ∧ n ≤ a.bo ∧ n ≤ a.ki ∧ n ≤ a.si) : ∀ i, i < n → H'[i]? = H[i]? := fun i hi => b.1 i (by omega) (by omega) (by omega) (by omega)
theorem body_safe : Body 6 3 4 b_law_is_safe W46 := by
  rintro args H Q ⟨f, r, a, B, k, t, rfl, G, Z, P, K, hk, ht, hn, hH, q⟩
  refine ⟨rfl, ?_⟩
  have hle := K.sz.le
  have bl := K.bl
  have hkl := hk.lt K
  unfold b_law_is_safe
  refine st_assign ?_
  simp only [wE, wEs, wT, wVar, lget, lset, wBin, binI, cmpA, cmpI, cmpB, truthA, wGetA, getF, wGetI, wSetA, putF, wSetI, wApp, rangeA, List.append_eq, List.cons_append, List.nil_append, List.length_cons, List.length_nil, List.replicate, ↓reduceIte, Nat.reduceEqDiff, if_true, if_false, List.getElem?_cons_zero, List.getElem?_cons_succ, Int.toNat_zero, Int.toNat_one, Nat.reduceAdd, Nat.reduceSub, Int.toNat_natCast, Int.reduceToNat, band_nat, bor_nat, bxor_nat, bandn_nat, band_7, band_15, band_1, bor_0, shr_1, shr_2, shr_3, shr_4, shr_8, shr_16, shr_32, shl_1, shr_v]
  refine ⟨by decide, .inr ⟨f, r, a, B, rfl, G, P, K.bd, hH, fun a' H1 P1 x1 o hi => ?_⟩⟩
  have Z1 := Z.ext x1
  have G1 := G.ext x1
  have eb : (intsA B.bo)[t]? = some (.int ((B.bo.getD t 0 : Nat) : Int)) := intsA_get (by omega)
  refine st_ife ?_
  simp only [wE, wEs, wT, wVar, lget, lset, wBin, binI, cmpA, cmpI, cmpB, truthA, wGetA, getF, wGetI, wSetA, putF, wSetI, wApp, rangeA, List.append_eq, List.cons_append, List.nil_append, List.length_cons, List.length_nil, List.replicate, ↓reduceIte, Nat.reduceEqDiff, if_true, if_false, List.getElem?_cons_zero, List.getElem?_cons_succ, Int.toNat_zero, Int.toNat_one, Nat.reduceAdd, Nat.reduceSub, Int.toNat_natCast, Int.reduceToNat, band_nat, bor_nat, bxor_nat, bandn_nat, band_7, band_15, band_1, bor_0, shr_1, shr_2, shr_3, shr_4, shr_8, shr_16, shr_32, shl_1, shr_v, P1.i, P1.d, P1.bo, posD, eb, nez]
  refine ⟨by omega, ?_⟩
  have fin : ∀ B1 H2, PosAt H2 a' B1 → BoardOk f r B1 → But a' H1 H2 → shiftB B1 k t = moveB B k t → wSs (Oo 6) [.expr (.call 24 [(.var 3), (.var 1), (.var 2)]), .ret (.not (.call 38 [(.var 3)]))] [.ref a.p, .int k, .int t, .ref a'.p] H2 (fun fl _ H' => Q (retOf fl) H') := by
    intro B1 H2 P2 K2 b2 e
    obtain ⟨m1, m2, m3, m4⟩ := move_ok K hk ht hn
    refine st_expr ?_
    simp only [wE, wEs, wT, wVar, lget, lset, wBin, binI, cmpA, cmpI, cmpB, truthA, wGetA, getF, wGetI, wSetA, putF, wSetI, wApp, rangeA, List.append_eq, List.cons_append, List.nil_append, List.length_cons, List.length_nil, List.replicate, ↓reduceIte, Nat.reduceEqDiff, if_true, if_false, List.getElem?_cons_zero, List.getElem?_cons_succ, Int.toNat_zero, Int.toNat_one, Nat.reduceAdd, Nat.reduceSub, Int.toNat_natCast, Int.reduceToNat, band_nat, bor_nat, bxor_nat, bandn_nat, band_7, band_15, band_1, bor_0, shr_1, shr_2, shr_3, shr_4, shr_8, shr_16, shr_32, shl_1, shr_v]
    refine ⟨by decide, .inr ⟨f, r, a', B1, k, t, rfl, Z1.low (b2.low o), P2, o, K2.bd, hkl, ht, fun H3 P3 b3 => st_ret ?_⟩⟩
    rw [e] at P3
    have b13 := b2.trans b3
    have G3 := G1.low (b13.low o)
    have m3' : KingAt f r (moveB B k t) (moveB B k t).side t := King1.at m1 m1.side (m2.symm ▸ m3)
    simp only [wE, wEs, wT, wVar, lget, lset, wBin, binI, cmpA, cmpI, cmpB, truthA, wGetA, getF, wGetI, wSetA, putF, wSetI, wApp, rangeA, List.append_eq, List.cons_append, List.nil_append, List.length_cons, List.length_nil, List.replicate, ↓reduceIte, Nat.reduceEqDiff, if_true, if_false, List.getElem?_cons_zero, List.getElem?_cons_succ, Int.toNat_zero, Int.toNat_one, Nat.reduceAdd, Nat.reduceSub, Int.toNat_natCast, Int.reduceToNat, band_nat, bor_nat, bxor_nat, bandn_nat, band_7, band_15, band_1, bor_0, shr_1, shr_2, shr_3, shr_4, shr_8, shr_16, shr_32, shl_1, shr_v]
    refine ⟨by decide, .inr ⟨f, r, a', moveB B k t, t, rfl, ⟨G3, P3, m1.bd⟩, m3', ?_⟩⟩
    simp only [wE, wEs, wT, wVar, lget, lset, wBin, binI, cmpA, cmpI, cmpB, truthA, wGetA, getF, wGetI, wSetA, putF, wSetI, wApp, rangeA, List.append_eq, List.cons_append, List.nil_append, List.length_cons, List.length_nil, List.replicate, ↓reduceIte, Nat.reduceEqDiff, if_true, if_false, List.getElem?_cons_zero, List.getElem?_cons_succ, Int.toNat_zero, Int.toNat_one, Nat.reduceAdd, Nat.reduceSub, Int.toNat_natCast, Int.reduceToNat, band_nat, bor_nat, bxor_nat, bandn_nat, band_7, band_15, band_1, bor_0, shr_1, shr_2, shr_3, shr_4, shr_8, shr_16, shr_32, shl_1, shr_v]
    rw [m2]
    refine q H3 ?_
    refine ext_of (fun i hi' => ?_) (by have := x1.len; have := b13.2; omega)
    rw [b13.hi ⟨hi.2.1, hi.2.2.1, hi.2.2.2.1, hi.2.2.2.2⟩ i hi']
    obtain ⟨u, rfl⟩ := x1
    exact List.getElem?_append_left hi'
  by_cases h0 : B.bo.getD t 0 = 0
  · simp only [h0, bne_self_eq_false]
    refine st_nil (nx_next (fin B H1 P1 K But.refl ?_))
    unfold moveB; rw [if_pos h0]
  · simp only [bne_iff_ne.mpr h0]
    refine st_expr ?_
    simp only [wE, wEs, wT, wVar, lget, lset, wBin, binI, cmpA, cmpI, cmpB, truthA, wGetA, getF, wGetI, wSetA, putF, wSetI, wApp, rangeA, List.append_eq, List.cons_append, List.nil_append, List.length_cons, List.length_nil, List.replicate, ↓reduceIte, Nat.reduceEqDiff, if_true, if_false, List.getElem?_cons_zero, List.getElem?_cons_succ, Int.toNat_zero, Int.toNat_one, Nat.reduceAdd, Nat.reduceSub, Int.toNat_natCast, Int.reduceToNat, band_nat, bor_nat, bxor_nat, bandn_nat, band_7, band_15, band_1, bor_0, shr_1, shr_2, shr_3, shr_4, shr_8, shr_16, shr_32, shl_1, shr_v]
    refine ⟨by decide, .inr ⟨f, r, a', B, t, rfl, Z1, P1, o, K.bd, ht, fun v H2 P2 b2 => st_nil (nx_next (fin _ H2 P2 (K.take h0) b2 ?_))⟩⟩
    unfold moveB; rw [if_neg h0]
/-! the board -/
theorem body_rk {f : Nat} {p : Nat × Nat × List S × Bool} (hp : bodyOf f = some p) : rk f ≤ 3 := by
  unfold bodyOf at hp
  split at hp <;> first | decide | (cases hp)
theorem run_rk : ∀ {n f : Nat} {args : List AV} {H : Hp} {x : AV × Hp}, Cr n f args H = some x → rk f ≤ 3
  | 0, _, _, _, _, h => by cases h
  | n + 1, f, _, _, _, h => by
    unfold Cr at h
    obtain ⟨p, hp, _⟩ := Option.bind_eq_some_iff.mp h
    exact body_rk hp
noncomputable def B0 (f r : Nat) : Bd := ⟨List.replicate (f * r) 0, List.replicate 7 0, 0, 0, 0⟩
theorem zeros_ints (n : Nat) : zeros n = intsA (List.replicate n 0) := by simp [zeros, intsA]
theorem rep_getD (n s : Nat) : (List.replicate n 0).getD s 0 = 0 := by
  rw [List.getD_eq_getElem?_getD, List.getElem?_replicate]
  split <;> rfl
theorem B0_ok {f r : Nat} (h : Sz f r) : BoardOk f r (B0 f r) := by
  refine ⟨h, List.length_replicate, fun s => .inl (rep_getD _ s), List.length_replicate, by show 0 < 2; decide, fun k s a b => ?_, fun i s a => ?_⟩
  · unfold Bd.kd B0
    dsimp only
    rw [rep_getD, rep_getD]; simp; omega
  · have : (B0 f r).sd i = 0 := by unfold Bd.sd B0; split <;> rfl
    rw [this]
    unfold B0
    dsimp only
    rw [rep_getD]; simp
theorem HX_geo {f r : Nat} (h : Sz f r) (xs : List AV) (c : Int) : GeoAt (HX f r xs c) f r where
  sz := h
  i := rfl
  d := rfl
  rays := rfl
  ray := fun d hd => by
    match d, hd with
    | 0, _ => rfl
    | 1, _ => rfl
    | 2, _ => rfl
    | 3, _ => rfl
    | 4, _ => rfl
    | 5, _ => rfl
    | 6, _ => rfl
    | 7, _ => rfl
    | d + 8, h => exact absurd h (by omega)
  king := rfl
  knight := rfl
  pawn := rfl
  p0 := rfl
  p1 := rfl
theorem HX_zob (f r : Nat) (xs : List AV) (c : Int) : ZobAt (HX f r xs c) f r := ⟨rfl, rfl, rfl, rfl⟩
theorem HX_pos (f r : Nat) (xs : List AV) (c : Int) : PosAt (HX f r xs c) pa0 (B0 f r) := ⟨rfl, rfl, by rw [B0, ← zeros_ints]; rfl, by rw [B0, ← zeros_ints]; rfl, rfl, rfl⟩
theorem pa0_ok : PAok pa0 := ⟨by decide, by decide, by decide, by decide, by decide⟩
theorem board_run {f r : Nat} (h : Sz f r) (sl : AV) (xs : List AV) (c : Int) (l : List AV) : rE (Cr 7) (sl :: .int f :: .int r :: .int ((f * r : Nat) : Int) :: l) eBoard [.list xs, .list [.ref 0, .int c]] = some (.ref 57, HX f r xs c) :=
  h.cases (P := fun f r => rE (Cr 7) (sl :: .int f :: .int r :: .int ((f * r : Nat) : Int) :: l) eBoard [.list xs, .list [.ref 0, .int c]] = some (.ref 57, HX f r xs c)) (board_33 sl xs c l) (board_34 sl xs c l) (board_43 sl xs c l) (board_44 sl xs c l)
theorem two_eq {H : Hp} {a b : AO} (h0 : H[0]? = some a) (h1 : H[1]? = some b) (hl : H.length = 2) : H = [a, b] := by
  cases H with
  | nil => cases hl
  | cons x t =>
    cases t with
    | nil => cases hl
    | cons y u =>
      cases u with
      | nil => cases h0; cases h1; rfl
      | cons z u => cases hl
/-- what the board's loop keeps -/
structure LoopI (H : Hp) (f r : Nat) (B : Bd) (ns : List Int) (c k k' : Nat) : Prop where
  G : GeoAt H f r
  Z : ZobAt H f r
  P : PosAt H pa0 B
  K : BoardOk f r B
  k : King1 B B.side k
  k' : King1 B (1 - B.side) k'
  S : Slate H ns c
  l : 56 ≤ H.length
theorem Slate.keep {H H' : Hp} {ns : List Int} {c : Nat} (S : Slate H ns c) (h : ∀ i, i < 2 → H'[i]? = H[i]?) : Slate H' ns c := ⟨(h 0 (by decide)).trans S.1, (h 1 (by decide)).trans S.2.1, S.2.2⟩
theorem PosAt.low {H H' : Hp} {B : Bd} (P : PosAt H pa0 B) (h : ∀ i, i ≠ 1 → H'[i]? = H[i]?) : PosAt H' pa0 B := ⟨(h _ (by decide)).trans P.i, (h _ (by decide)).trans P.d, (h _ (by decide)).trans P.bo, (h _ (by decide)).trans P.ki, (h _ (by decide)).trans P.si, (h _ (by decide)).trans P.hs⟩
theorem LoopI.tally {H H' : Hp} {f r : Nat} {B : Bd} {ns : List Int} {c k k' : Nat} (I : LoopI H f r B ns c k k') (S : Slate H' ns (c + 1)) (h : ∀ i, i ≠ 1 → H'[i]? = H[i]?) (hl : H'.length = H.length) : LoopI H' f r B ns (c + 1) k k' :=
  ⟨I.G.low fun i hi _ => h i hi, I.Z.low fun i hi _ => h i hi, I.P.low h, I.K, I.k, I.k', S, by rw [hl]; exact I.l⟩
theorem but_lo {H H' : Hp} (b : But pa0 H H') : ∀ i, i < 2 → H'[i]? = H[i]? := fun i hi => b.1 i (by show i ≠ 56; omega) (by show i ≠ 59; omega) (by show i ≠ 61; omega) (by show i ≠ 62; omega)
theorem LoopI.put {H H' : Hp} {f r : Nat} {B : Bd} {ns : List Int} {c k k' p s : Nat} (I : LoopI H f r B ns c k k') (P : PosAt H' pa0 (putB B p s)) (b : But pa0 H H') (hp : Man p) (h0 : p ≠ 0) (hk : p &&& 7 ≠ 6) (hs : s < f * r) (he : B.bo.getD s 0 = 0) : LoopI H' f r (putB B p s) ns c k k' := by
  have ne : ∀ i j, King1 B i j → King1 (putB B p s) i j := fun i j h t => by
    rw [put_bo (by rw [I.K.bl]; exact hs), ← h t]
    by_cases e : s = t
    · subst e
      rw [if_pos rfl, he]
      rw [and7] at hk
      constructor
      · intro q; omega
      · intro q; omega
    · rw [if_neg e]
  exact ⟨I.G.low (b.low pa0_ok), I.Z.low (b.low pa0_ok), P, I.K.put hp h0 hs he, by rw [put_side]; exact ne _ _ I.k, by rw [put_side]; exact ne _ _ I.k', I.S.keep (but_lo b), by rw [b.2]; exact I.l⟩
noncomputable def lbB : List S := [.assign3 7 8 9 (.call 44 [(.var 0), (.var 3)]) (.bin .Add (.const (.int 1)) (.call 44 [(.var 0), (.const (.int 5))])) (.call 44 [(.var 0), (.const (.int 2))]), .ife (.and (.cmp .Eq (.var 8) (.const (.int 1))) (.not (.chain .LtE .Lt (.var 1) (.var 7) (.bin .Sub (.var 3) (.var 1))))) [.assign 8 (.const (.int 2))] [], .ife (.cmp .Eq (.bin .BitAnd (.bin .RShift (.call 25 [(.var 4)]) (.var 7)) (.const (.int 1))) (.const (.int 0))) [.expr (.call 22 [(.var 4), (.call 0 [(.var 9), (.var 8)]), (.var 7)])] []]
theorem one_add (v : Nat) : (1 : Int) + v = ((1 + v : Nat) : Int) := by omega
theorem lb_loop {f r : Nat} {ns : List Int} {k k' : Nat} {kg : AV} {Q : Cont} : ∀ (vs : List AV) (H : Hp) (B : Bd) (c : Nat) (t x y z : AV), (∀ v ∈ vs, ∃ i, v = .int i) → LoopI H f r B ns c k k' → c + 3 * vs.length < 60 →
    (∀ H' B' c' t x y z, LoopI H' f r B' ns c' k k' → c' < 60 → Q .next [.ref 1, .int f, .int r, .int ((f * r : Nat) : Int), .ref 57, kg, t, x, y, z] H') →
    wFor (fun _ => True) (wSs (Oo 3) lbB) 6 vs [.ref 1, .int f, .int r, .int ((f * r : Nat) : Int), .ref 57, kg, t, x, y, z] H Q
  | [], H, B, c, t, x, y, z, hv, I, hc, q => for_nil trivial (q H B c t x y z I (by simpa using hc))
  | v :: vs, H, B, c, t, x, y, z, hv, I, hc, q => by
    have hle := I.K.sz.le
    obtain ⟨i, rfl⟩ := hv v (.head _)
    rw [List.length_cons] at hc
    refine for_cons trivial ?_
    unfold lbB
    refine st_assign3 ?_
    simp only [wE, wEs, wT, wVar, lget, lset, wBin, binI, cmpA, cmpI, cmpB, truthA, wGetA, getF, wGetI, wSetA, putF, wSetI, wApp, rangeA, List.append_eq, List.cons_append, List.nil_append, List.length_cons, List.length_nil, List.replicate, ↓reduceIte, Nat.reduceEqDiff, if_true, if_false, List.getElem?_cons_zero, List.getElem?_cons_succ, Int.toNat_zero, Int.toNat_one, Nat.reduceAdd, Nat.reduceSub, Int.toNat_natCast, Int.reduceToNat, band_nat, bor_nat, bxor_nat, bandn_nat, band_7, band_15, band_1, bor_0, shr_1, shr_2, shr_3, shr_4, shr_8, shr_16, shr_32, shl_1, shr_v]
    refine ⟨by decide, .inr ⟨ns, c, f * r, rfl, I.S, by omega, by omega, fun s H1 hs S1 g1 l1 => ?_⟩⟩
    have I1 := I.tally S1 g1 l1
    refine ⟨by decide, .inr ⟨ns, c + 1, 5, rfl, S1, by omega, by decide, fun kd H2 hkd S2 g2 l2 => ?_⟩⟩
    have I2 := I1.tally S2 g2 l2
    simp only [wE, wEs, wT, wVar, lget, lset, wBin, binI, cmpA, cmpI, cmpB, truthA, wGetA, getF, wGetI, wSetA, putF, wSetI, wApp, rangeA, List.append_eq, List.cons_append, List.nil_append, List.length_cons, List.length_nil, List.replicate, ↓reduceIte, Nat.reduceEqDiff, if_true, if_false, List.getElem?_cons_zero, List.getElem?_cons_succ, Int.toNat_zero, Int.toNat_one, Nat.reduceAdd, Nat.reduceSub, Int.toNat_natCast, Int.reduceToNat, band_nat, bor_nat, bxor_nat, bandn_nat, band_7, band_15, band_1, bor_0, shr_1, shr_2, shr_3, shr_4, shr_8, shr_16, shr_32, shl_1, shr_v, one_add]
    refine ⟨by decide, .inr ⟨ns, c + 1 + 1, 2, rfl, S2, by omega, by decide, fun sd H3 hsd S3 g3 l3 => ?_⟩⟩
    have I3 := I2.tally S3 g3 l3
    have rest : ∀ kd : Nat, 1 ≤ kd → kd ≤ 5 → wSs (Oo 3) [.ife (.cmp .Eq (.bin .BitAnd (.bin .RShift (.call 25 [(.var 4)]) (.var 7)) (.const (.int 1))) (.const (.int 0))) [.expr (.call 22 [(.var 4), (.call 0 [(.var 9), (.var 8)]), (.var 7)])] []]
        [.ref 1, .int f, .int r, .int ((f * r : Nat) : Int), .ref 57, kg, .int i, .int s, .int kd, .int sd] H3 (Fx (fun _ => True) (wSs (Oo 3) lbB) 6 vs Q) := by
      intro kd hk1 hk2
      refine st_ife ?_
      simp only [wE, wEs, wT, wVar, lget, lset, wBin, binI, cmpA, cmpI, cmpB, truthA, wGetA, getF, wGetI, wSetA, putF, wSetI, wApp, rangeA, List.append_eq, List.cons_append, List.nil_append, List.length_cons, List.length_nil, List.replicate, ↓reduceIte, Nat.reduceEqDiff, if_true, if_false, List.getElem?_cons_zero, List.getElem?_cons_succ, Int.toNat_zero, Int.toNat_one, Nat.reduceAdd, Nat.reduceSub, Int.toNat_natCast, Int.reduceToNat, band_nat, bor_nat, bxor_nat, bandn_nat, band_7, band_15, band_1, bor_0, shr_1, shr_2, shr_3, shr_4, shr_8, shr_16, shr_32, shl_1, shr_v]
      refine ⟨by decide, .inr ⟨pa0, B, rfl, I3.P, ?_⟩⟩
      simp only [wE, wEs, wT, wVar, lget, lset, wBin, binI, cmpA, cmpI, cmpB, truthA, wGetA, getF, wGetI, wSetA, putF, wSetI, wApp, rangeA, List.append_eq, List.cons_append, List.nil_append, List.length_cons, List.length_nil, List.replicate, ↓reduceIte, Nat.reduceEqDiff, if_true, if_false, List.getElem?_cons_zero, List.getElem?_cons_succ, Int.toNat_zero, Int.toNat_one, Nat.reduceAdd, Nat.reduceSub, Int.toNat_natCast, Int.reduceToNat, band_nat, bor_nat, bxor_nat, bandn_nat, band_7, band_15, band_1, bor_0, shr_1, shr_2, shr_3, shr_4, shr_8, shr_16, shr_32, shl_1, shr_v]
      rw [show (((B.occ >>> s &&& 1 : Nat) : Int) == 0) = decide (B.occ >>> s &&& 1 = 0) from beq_nat _ 0]
      refine ⟨by omega, ?_⟩
      by_cases h0 : B.occ >>> s &&& 1 = 0
      · rw [decide_eq_true h0]
        have hocc : B.occ.testBit s = false := by
          rw [Bool.eq_false_iff]; intro e
          have := (bit_test _ _).mpr e
          omega
        have hb0 : B.bo.getD s 0 = 0 := by
          rw [Bd.occ, Nat.testBit_or, Bool.or_eq_false_iff] at hocc
          have hm := I3.K.man s
          have h1 := I3.K.sb 0 s (by decide)
          have h2 := I3.K.sb 1 s (by decide)
          rw [show B.sd 0 = B.s0 from rfl, hocc.1, shr3] at h1
          rw [show B.sd 1 = B.s1 from rfl, hocc.2, shr3] at h2
          simp at h1 h2
          rcases Nat.eq_zero_or_pos (B.bo.getD s 0) with e | e
          · exact e
          · exfalso
            simp only [List.getD_eq_getElem?_getD] at e hm
            have := h1 (by omega)
            have := h2 (by omega)
            unfold Man at hm
            omega
        refine st_expr ?_
        simp only [wE, wEs, wT, wVar, lget, lset, wBin, binI, cmpA, cmpI, cmpB, truthA, wGetA, getF, wGetI, wSetA, putF, wSetI, wApp, rangeA, List.append_eq, List.cons_append, List.nil_append, List.length_cons, List.length_nil, List.replicate, ↓reduceIte, Nat.reduceEqDiff, if_true, if_false, List.getElem?_cons_zero, List.getElem?_cons_succ, Int.toNat_zero, Int.toNat_one, Nat.reduceAdd, Nat.reduceSub, Int.toNat_natCast, Int.reduceToNat, band_nat, bor_nat, bxor_nat, bandn_nat, band_7, band_15, band_1, bor_0, shr_1, shr_2, shr_3, shr_4, shr_8, shr_16, shr_32, shl_1, shr_v]
        refine ⟨by decide, .inr ⟨sd, kd, rfl, hsd, by omega, ?_⟩⟩
        have hm : Man (sd * 8 + kd) := by unfold Man; omega
        have hx : (sd * 8 + kd) &&& 7 ≠ 6 := by rw [and7]; omega
        refine ⟨by decide, .inr ⟨f, r, pa0, B, sd * 8 + kd, s, rfl, I3.Z, I3.P, pa0_ok, I3.K.bd, hm.pok, hs, fun H4 P4 b4 => ?_⟩⟩
        exact st_nil (nx_next (st_nil (fx_next (lb_loop vs H4 _ _ _ _ _ _ (fun v h => hv v (.tail _ h)) (I3.put P4 b4 hm (by omega) hx hs hb0) (by omega) q))))
      · rw [decide_eq_false h0]
        exact st_nil (nx_next (st_nil (fx_next (lb_loop vs H3 _ _ _ _ _ _ (fun v h => hv v (.tail _ h)) I3 (by omega) q))))
    refine st_ife ?_
    simp only [wE, wEs, wT, wVar, lget, lset, wBin, binI, cmpA, cmpI, cmpB, truthA, wGetA, getF, wGetI, wSetA, putF, wSetI, wApp, rangeA, List.append_eq, List.cons_append, List.nil_append, List.length_cons, List.length_nil, List.replicate, ↓reduceIte, Nat.reduceEqDiff, if_true, if_false, List.getElem?_cons_zero, List.getElem?_cons_succ, Int.toNat_zero, Int.toNat_one, Nat.reduceAdd, Nat.reduceSub, Int.toNat_natCast, Int.reduceToNat, band_nat, bor_nat, bxor_nat, bandn_nat, band_7, band_15, band_1, bor_0, shr_1, shr_2, shr_3, shr_4, shr_8, shr_16, shr_32, shl_1, shr_v]
    rw [show (((1 + kd : Nat) : Int) == 1) = decide (1 + kd = 1) from beq_nat _ 1]
    by_cases h1 : 1 + kd = 1
    · rw [decide_eq_true h1]
      simp only [wE, wEs, wT, wVar, lget, lset, wBin, binI, cmpA, cmpI, cmpB, truthA, wGetA, getF, wGetI, wSetA, putF, wSetI, wApp, rangeA, List.append_eq, List.cons_append, List.nil_append, List.length_cons, List.length_nil, List.replicate, ↓reduceIte, Nat.reduceEqDiff, if_true, if_false, List.getElem?_cons_zero, List.getElem?_cons_succ, Int.toNat_zero, Int.toNat_one, Nat.reduceAdd, Nat.reduceSub, Int.toNat_natCast, Int.reduceToNat, band_nat, bor_nat, bxor_nat, bandn_nat, band_7, band_15, band_1, bor_0, shr_1, shr_2, shr_3, shr_4, shr_8, shr_16, shr_32, shl_1, shr_v]
      cases decide ((f : Int) ≤ s) with
      | true =>
        simp only [wE, wEs, wT, wVar, lget, lset, wBin, binI, cmpA, cmpI, cmpB, truthA, wGetA, getF, wGetI, wSetA, putF, wSetI, wApp, rangeA, List.append_eq, List.cons_append, List.nil_append, List.length_cons, List.length_nil, List.replicate, ↓reduceIte, Nat.reduceEqDiff, if_true, if_false, List.getElem?_cons_zero, List.getElem?_cons_succ, Int.toNat_zero, Int.toNat_one, Nat.reduceAdd, Nat.reduceSub, Int.toNat_natCast, Int.reduceToNat, band_nat, bor_nat, bxor_nat, bandn_nat, band_7, band_15, band_1, bor_0, shr_1, shr_2, shr_3, shr_4, shr_8, shr_16, shr_32, shl_1, shr_v]
        cases decide ((s : Int) < ((f * r : Nat) : Int) - f) with
        | true =>
          simp only [Bool.not_true]
          exact st_nil (nx_next (rest _ (by omega) (by omega)))
        | false =>
          simp only [Bool.not_false]
          refine st_assign ?_
          simp only [wE, wEs, wT, wVar, lget, lset, wBin, binI, cmpA, cmpI, cmpB, truthA, wGetA, getF, wGetI, wSetA, putF, wSetI, wApp, rangeA, List.append_eq, List.cons_append, List.nil_append, List.length_cons, List.length_nil, List.replicate, ↓reduceIte, Nat.reduceEqDiff, if_true, if_false, List.getElem?_cons_zero, List.getElem?_cons_succ, Int.toNat_zero, Int.toNat_one, Nat.reduceAdd, Nat.reduceSub, Int.toNat_natCast, Int.reduceToNat, band_nat, bor_nat, bxor_nat, bandn_nat, band_7, band_15, band_1, bor_0, shr_1, shr_2, shr_3, shr_4, shr_8, shr_16, shr_32, shl_1, shr_v]
          exact st_nil (nx_next (rest 2 (by omega) (by omega)))
      | false =>
        simp only [wE, wEs, wT, wVar, lget, lset, wBin, binI, cmpA, cmpI, cmpB, truthA, wGetA, getF, wGetI, wSetA, putF, wSetI, wApp, rangeA, List.append_eq, List.cons_append, List.nil_append, List.length_cons, List.length_nil, List.replicate, ↓reduceIte, Nat.reduceEqDiff, if_true, if_false, List.getElem?_cons_zero, List.getElem?_cons_succ, Int.toNat_zero, Int.toNat_one, Nat.reduceAdd, Nat.reduceSub, Int.toNat_natCast, Int.reduceToNat, band_nat, bor_nat, bxor_nat, bandn_nat, band_7, band_15, band_1, bor_0, shr_1, shr_2, shr_3, shr_4, shr_8, shr_16, shr_32, shl_1, shr_v, Bool.not_false]
        refine st_assign ?_
        simp only [wE, wEs, wT, wVar, lget, lset, wBin, binI, cmpA, cmpI, cmpB, truthA, wGetA, getF, wGetI, wSetA, putF, wSetI, wApp, rangeA, List.append_eq, List.cons_append, List.nil_append, List.length_cons, List.length_nil, List.replicate, ↓reduceIte, Nat.reduceEqDiff, if_true, if_false, List.getElem?_cons_zero, List.getElem?_cons_succ, Int.toNat_zero, Int.toNat_one, Nat.reduceAdd, Nat.reduceSub, Int.toNat_natCast, Int.reduceToNat, band_nat, bor_nat, bxor_nat, bandn_nat, band_7, band_15, band_1, bor_0, shr_1, shr_2, shr_3, shr_4, shr_8, shr_16, shr_32, shl_1, shr_v]
        exact st_nil (nx_next (rest 2 (by omega) (by omega)))
    · rw [decide_eq_false h1]
      exact st_nil (nx_next (rest _ (by omega) (by omega)))
end Mine

namespace Mine
theorem three_add (v : Nat) : (3 : Int) + v = ((3 + v : Nat) : Int) := by omega
theorem mul_cast (a b : Nat) : (a : Int) * (b : Int) = ((a * b : Nat) : Int) := by norm_cast
theorem king_put {B : Bd} {f r i s : Nat} (h : BoardOk f r B) (hi : i < 2) (hs : s < f * r) (hn : ∀ t, B.bo.getD t 0 ≠ i * 8 + 6) : King1 (putB B (i * 8 + 6) s) i s := fun t => by
  rw [put_bo (by rw [h.bl]; exact hs)]
  by_cases e : s = t
  · rw [if_pos e]; exact ⟨fun _ => e.symm, fun _ => rfl⟩
  · rw [if_neg e]; exact ⟨fun q => absurd q (hn t), fun q => absurd q.symm e⟩
theorem king_keep {B : Bd} {f r i j k s p : Nat} (h : BoardOk f r B) (hk : King1 B i k) (hs : s < f * r) (hn : k ≠ s) (hp : p ≠ i * 8 + 6) : King1 (putB B p s) i k := fun t => by
  rw [put_bo (by rw [h.bl]; exact hs)]
  by_cases e : s = t
  · rw [if_pos e]; exact ⟨fun q => absurd q hp, fun q => absurd (q.symm.trans e.symm) hn⟩
  · rw [if_neg e]; exact hk t
theorem Slate.two {H : Hp} {ns : List Int} {c : Nat} (S : Slate H ns c) (hl : H.length = 2) : H = [.list (ns.map .int), .list [.ref 0, .int c]] := two_eq S.1 S.2.1 hl
theorem rv_int (a b c : Int) : ∀ v ∈ rangeVals a b c, ∃ i, v = .int i := by
  intro v hv
  unfold rangeVals at hv
  obtain ⟨i, _, rfl⟩ := List.mem_map.mp hv
  exact ⟨_, rfl⟩
theorem rv_len (n : Nat) : (rangeVals 0 (n : Int) 1).length = n := by
  unfold rangeVals
  rw [List.length_map, List.length_range]
  simp [Builtin.Range.rangeSize]
  try omega
theorem body_board : Body 3 1 10 b_law_board W45 := by
  rintro args H Q ⟨ns, rfl, rfl, hns, q⟩
  refine ⟨rfl, ?_⟩
  unfold b_law_board
  refine st_assign2 ?_
  have S0 : Slate [.list (ns.map .int), .list [.ref 0, .int ((0 : Nat) : Int)]] ns 0 := ⟨rfl, rfl, hns⟩
  simp only [wE, wEs, wT, wVar, lget, lset, wBin, binI, cmpA, cmpI, cmpB, truthA, wGetA, getF, wGetI, wSetA, putF, wSetI, wApp, rangeA, List.append_eq, List.cons_append, List.nil_append, List.length_cons, List.length_nil, List.replicate, ↓reduceIte, Nat.reduceEqDiff, if_true, if_false, List.getElem?_cons_zero, List.getElem?_cons_succ, Int.toNat_zero, Int.toNat_one, Nat.reduceAdd, Nat.reduceSub, Int.toNat_natCast, Int.reduceToNat, band_nat, bor_nat, bxor_nat, bandn_nat, band_7, band_15, band_1, bor_0, shr_1, shr_2, shr_3, shr_4, shr_8, shr_16, shr_32, shl_1, shr_v]
  refine ⟨by decide, .inr ⟨ns, 0, 2, rfl, S0, by decide, by decide, fun v1 H1 hv1 S1 g1 l1 => ?_⟩⟩
  simp only [wE, wEs, wT, wVar, lget, lset, wBin, binI, cmpA, cmpI, cmpB, truthA, wGetA, getF, wGetI, wSetA, putF, wSetI, wApp, rangeA, List.append_eq, List.cons_append, List.nil_append, List.length_cons, List.length_nil, List.replicate, ↓reduceIte, Nat.reduceEqDiff, if_true, if_false, List.getElem?_cons_zero, List.getElem?_cons_succ, Int.toNat_zero, Int.toNat_one, Nat.reduceAdd, Nat.reduceSub, Int.toNat_natCast, Int.reduceToNat, band_nat, bor_nat, bxor_nat, bandn_nat, band_7, band_15, band_1, bor_0, shr_1, shr_2, shr_3, shr_4, shr_8, shr_16, shr_32, shl_1, shr_v]
  refine ⟨by decide, .inr ⟨ns, 1, 2, rfl, S1, by decide, by decide, fun v2 H2 hv2 S2 g2 l2 => ?_⟩⟩
  simp only [wE, wEs, wT, wVar, lget, lset, wBin, binI, cmpA, cmpI, cmpB, truthA, wGetA, getF, wGetI, wSetA, putF, wSetI, wApp, rangeA, List.append_eq, List.cons_append, List.nil_append, List.length_cons, List.length_nil, List.replicate, ↓reduceIte, Nat.reduceEqDiff, if_true, if_false, List.getElem?_cons_zero, List.getElem?_cons_succ, Int.toNat_zero, Int.toNat_one, Nat.reduceAdd, Nat.reduceSub, Int.toNat_natCast, Int.reduceToNat, band_nat, bor_nat, bxor_nat, bandn_nat, band_7, band_15, band_1, bor_0, shr_1, shr_2, shr_3, shr_4, shr_8, shr_16, shr_32, shl_1, shr_v, three_add]
  have hz : Sz (3 + v1) (3 + v2) := ⟨by omega, by omega⟩
  have e2 : H2 = [.list (ns.map .int), .list [.ref 0, .int ((2 : Nat) : Int)]] := S2.two (by rw [l2, l1]; rfl)
  generalize 3 + v1 = f at hz ⊢
  generalize 3 + v2 = r at hz ⊢
  have hle := hz.le
  have hf : f ≤ 4 ∧ r ≤ 4 := by unfold Sz at hz; omega
  refine st_assign ?_
  simp only [wE, wEs, wT, wVar, lget, lset, wBin, binI, cmpA, cmpI, cmpB, truthA, wGetA, getF, wGetI, wSetA, putF, wSetI, wApp, rangeA, List.append_eq, List.cons_append, List.nil_append, List.length_cons, List.length_nil, List.replicate, ↓reduceIte, Nat.reduceEqDiff, if_true, if_false, List.getElem?_cons_zero, List.getElem?_cons_succ, Int.toNat_zero, Int.toNat_one, Nat.reduceAdd, Nat.reduceSub, Int.toNat_natCast, Int.reduceToNat, band_nat, bor_nat, bxor_nat, bandn_nat, band_7, band_15, band_1, bor_0, shr_1, shr_2, shr_3, shr_4, shr_8, shr_16, shr_32, shl_1, shr_v, mul_cast]
  refine ⟨by left; omega, ?_⟩
  clear S1 g1 l1 g2 l2 S2
  subst e2
  refine st_assign ?_
  refine rE_ok (C := Cr 7) (fun g as K v K' h Q q => ⟨run_rk h, .inl ⟨7, v, K', h, q⟩⟩) eBoard _ _ _ (board_run hz (.ref 1) (ns.map .int) ((2 : Nat) : Int) _) _ ?_
  simp only [wE, wEs, wT, wVar, lget, lset, wBin, binI, cmpA, cmpI, cmpB, truthA, wGetA, getF, wGetI, wSetA, putF, wSetI, wApp, rangeA, List.append_eq, List.cons_append, List.nil_append, List.length_cons, List.length_nil, List.replicate, ↓reduceIte, Nat.reduceEqDiff, if_true, if_false, List.getElem?_cons_zero, List.getElem?_cons_succ, Int.toNat_zero, Int.toNat_one, Nat.reduceAdd, Nat.reduceSub, Int.toNat_natCast, Int.reduceToNat, band_nat, bor_nat, bxor_nat, bandn_nat, band_7, band_15, band_1, bor_0, shr_1, shr_2, shr_3, shr_4, shr_8, shr_16, shr_32, shl_1, shr_v]
  have I0G := HX_geo hz (ns.map .int) ((2 : Nat) : Int)
  have I0Z := HX_zob f r (ns.map .int) ((2 : Nat) : Int)
  have I0P := HX_pos f r (ns.map .int) ((2 : Nat) : Int)
  have I0S : Slate (HX f r (ns.map .int) ((2 : Nat) : Int)) ns 2 := ⟨rfl, rfl, hns⟩
  have I0l : (HX f r (ns.map .int) ((2 : Nat) : Int)).length = 64 := rfl
  have K0 := B0_ok hz
  generalize HX f r (ns.map .int) ((2 : Nat) : Int) = H2 at I0G I0Z I0P I0S I0l ⊢
  refine st_assign ?_
  simp only [wE, wEs, wT, wVar, lget, lset, wBin, binI, cmpA, cmpI, cmpB, truthA, wGetA, getF, wGetI, wSetA, putF, wSetI, wApp, rangeA, List.append_eq, List.cons_append, List.nil_append, List.length_cons, List.length_nil, List.replicate, ↓reduceIte, Nat.reduceEqDiff, if_true, if_false, List.getElem?_cons_zero, List.getElem?_cons_succ, Int.toNat_zero, Int.toNat_one, Nat.reduceAdd, Nat.reduceSub, Int.toNat_natCast, Int.reduceToNat, band_nat, bor_nat, bxor_nat, bandn_nat, band_7, band_15, band_1, bor_0, shr_1, shr_2, shr_3, shr_4, shr_8, shr_16, shr_32, shl_1, shr_v]
  refine ⟨by decide, .inr ⟨ns, 2, f * r, rfl, I0S, by decide, by omega, fun s1 H3 hs1 S3 g3 l3 => ?_⟩⟩
  have G3 := I0G.low (H' := H3) fun i hi _ => g3 i hi
  have Z3 := I0Z.low (H' := H3) fun i hi _ => g3 i hi
  have P3 := I0P.low g3
  refine st_expr ?_
  simp only [wE, wEs, wT, wVar, lget, lset, wBin, binI, cmpA, cmpI, cmpB, truthA, wGetA, getF, wGetI, wSetA, putF, wSetI, wApp, rangeA, List.append_eq, List.cons_append, List.nil_append, List.length_cons, List.length_nil, List.replicate, ↓reduceIte, Nat.reduceEqDiff, if_true, if_false, List.getElem?_cons_zero, List.getElem?_cons_succ, Int.toNat_zero, Int.toNat_one, Nat.reduceAdd, Nat.reduceSub, Int.toNat_natCast, Int.reduceToNat, band_nat, bor_nat, bxor_nat, bandn_nat, band_7, band_15, band_1, bor_0, shr_1, shr_2, shr_3, shr_4, shr_8, shr_16, shr_32, shl_1, shr_v]
  refine ⟨by decide, .inr ⟨0, 6, rfl, by decide, by decide, ?_⟩⟩
  have hm1 : Man 6 := by unfold Man; omega
  have hm2 : Man 14 := by unfold Man; omega
  have eb0 : ∀ t, (B0 f r).bo.getD t 0 = 0 := fun t => rep_getD _ t
  refine ⟨by decide, .inr ⟨f, r, pa0, B0 f r, 6, s1, rfl, Z3, P3, pa0_ok, K0.bd, hm1.pok, hs1, fun H4 P4 b4 => ?_⟩⟩
  have G4 := G3.low (b4.low pa0_ok)
  have Z4 := Z3.low (b4.low pa0_ok)
  have S4 := S3.keep (but_lo b4)
  have K4 := K0.put hm1 (by decide) hs1 (eb0 s1)
  have k4 : King1 (putB (B0 f r) 6 s1) 0 s1 := king_put (i := 0) K0 (by decide) hs1 fun t => by rw [eb0]; decide
  have eb4 : ∀ t, (putB (B0 f r) 6 s1).bo.getD t 0 = if s1 = t then 6 else 0 := fun t => by rw [put_bo (by rw [K0.bl]; exact hs1), eb0]
  have sd4 : (putB (B0 f r) 6 s1).side = 0 := put_side
  generalize putB (B0 f r) 6 s1 = B4 at P4 K4 k4 eb4 sd4
  refine st_expr ?_
  simp only [wE, wEs, wT, wVar, lget, lset, wBin, binI, cmpA, cmpI, cmpB, truthA, wGetA, getF, wGetI, wSetA, putF, wSetI, wApp, rangeA, List.append_eq, List.cons_append, List.nil_append, List.length_cons, List.length_nil, List.replicate, ↓reduceIte, Nat.reduceEqDiff, if_true, if_false, List.getElem?_cons_zero, List.getElem?_cons_succ, Int.toNat_zero, Int.toNat_one, Nat.reduceAdd, Nat.reduceSub, Int.toNat_natCast, Int.reduceToNat, band_nat, bor_nat, bxor_nat, bandn_nat, band_7, band_15, band_1, bor_0, shr_1, shr_2, shr_3, shr_4, shr_8, shr_16, shr_32, shl_1, shr_v]
  refine ⟨by decide, .inr ⟨1, 6, rfl, by decide, by decide, ?_⟩⟩
  have e1 : ((f * r : Nat) : Int) - 1 = ((f * r - 1 : Nat) : Int) := by omega
  rw [e1]
  refine ⟨by decide, .inr ⟨ns, 3, f * r - 1, rfl, S4, by decide, by omega, fun w H5 hw S5 g5 l5 => ?_⟩⟩
  have G5 := G4.low (H' := H5) fun i hi _ => g5 i hi
  have Z5 := Z4.low (H' := H5) fun i hi _ => g5 i hi
  have P5 := P4.low g5
  have e2 : ((s1 : Int) + 1 + w).fmod ((f * r : Nat) : Int) = (((s1 + 1 + w) % (f * r) : Nat) : Int) := by
    have : (s1 : Int) + 1 + w = ((s1 + 1 + w : Nat) : Int) := by omega
    rw [this, Int.fmod_eq_emod_of_nonneg _ (by omega)]; norm_cast
  simp only [wE, wEs, wT, wVar, lget, lset, wBin, binI, cmpA, cmpI, cmpB, truthA, wGetA, getF, wGetI, wSetA, putF, wSetI, wApp, rangeA, List.append_eq, List.cons_append, List.nil_append, List.length_cons, List.length_nil, List.replicate, ↓reduceIte, Nat.reduceEqDiff, if_true, if_false, List.getElem?_cons_zero, List.getElem?_cons_succ, Int.toNat_zero, Int.toNat_one, Nat.reduceAdd, Nat.reduceSub, Int.toNat_natCast, Int.reduceToNat, band_nat, bor_nat, bxor_nat, bandn_nat, band_7, band_15, band_1, bor_0, shr_1, shr_2, shr_3, shr_4, shr_8, shr_16, shr_32, shl_1, shr_v, e2]
  refine ⟨by omega, ?_⟩
  have hs2 : (s1 + 1 + w) % (f * r) < f * r := Nat.mod_lt _ (by omega)
  have hne : s1 ≠ (s1 + 1 + w) % (f * r) := by
    rcases Nat.lt_or_ge (s1 + 1 + w) (f * r) with h | h
    · rw [Nat.mod_eq_of_lt h]; omega
    · rw [Nat.mod_eq_sub_mod h, Nat.mod_eq_of_lt (by omega)]; omega
  generalize (s1 + 1 + w) % (f * r) = s2 at hs2 hne
  have eb4' : B4.bo.getD s2 0 = 0 := by rw [eb4, if_neg hne]
  refine ⟨by decide, .inr ⟨f, r, pa0, B4, 14, s2, rfl, Z5, P5, pa0_ok, K4.bd, hm2.pok, hs2, fun H6 P6 b6 => ?_⟩⟩
  have G6 := G5.low (b6.low pa0_ok)
  have Z6 := Z5.low (b6.low pa0_ok)
  have S6 := S5.keep (but_lo b6)
  have K6 := K4.put hm2 (by decide) hs2 eb4'
  have k6 : King1 (putB B4 14 s2) 1 s2 := king_put (i := 1) K4 (by decide) hs2 fun t => by rw [eb4]; split <;> decide
  have k6' : King1 (putB B4 14 s2) 0 s1 := king_keep (j := 0) K4 k4 hs2 hne (by decide)
  have sd6 : (putB B4 14 s2).side = 0 := by rw [put_side, sd4]
  have l6 : H6.length = 64 := by rw [b6.2, l5, b4.2, l3, I0l]
  generalize putB B4 14 s2 = B6 at P6 K6 k6 k6' sd6
  refine st_attrSet ?_
  simp only [wE, wEs, wT, wVar, lget, lset, wBin, binI, cmpA, cmpI, cmpB, truthA, wGetA, getF, wGetI, wSetA, putF, wSetI, wApp, rangeA, List.append_eq, List.cons_append, List.nil_append, List.length_cons, List.length_nil, List.replicate, ↓reduceIte, Nat.reduceEqDiff, if_true, if_false, List.getElem?_cons_zero, List.getElem?_cons_succ, Int.toNat_zero, Int.toNat_one, Nat.reduceAdd, Nat.reduceSub, Int.toNat_natCast, Int.reduceToNat, band_nat, bor_nat, bxor_nat, bandn_nat, band_7, band_15, band_1, bor_0, shr_1, shr_2, shr_3, shr_4, shr_8, shr_16, shr_32, shl_1, shr_v]
  refine ⟨by decide, .inr ⟨ns, 4, 2, rfl, S6, by decide, by decide, fun sd H7 hsd S7 g7 l7 => ?_⟩⟩
  have G7 := G6.low (H' := H7) fun i hi _ => g7 i hi
  have Z7 := Z6.low (H' := H7) fun i hi _ => g7 i hi
  have P7 := P6.low g7
  have i7 : H7[57]? = some (.inst 56) := P7.i
  have d7 : H7[56]? = some (.dict (posD 56 59 61 62 63 B6.side)) := P7.d
  simp only [wE, wEs, wT, wVar, lget, lset, wBin, binI, cmpA, cmpI, cmpB, truthA, wGetA, getF, wGetI, wSetA, putF, wSetI, wApp, rangeA, List.append_eq, List.cons_append, List.nil_append, List.length_cons, List.length_nil, List.replicate, ↓reduceIte, Nat.reduceEqDiff, if_true, if_false, List.getElem?_cons_zero, List.getElem?_cons_succ, Int.toNat_zero, Int.toNat_one, Nat.reduceAdd, Nat.reduceSub, Int.toNat_natCast, Int.reduceToNat, band_nat, bor_nat, bxor_nat, bandn_nat, band_7, band_15, band_1, bor_0, shr_1, shr_2, shr_3, shr_4, shr_8, shr_16, shr_32, shl_1, shr_v, i7, d7, posD]
  refine ⟨by decide, ?_⟩
  have P8 := P7.setSide pa0_ok sd
  have b8 : But pa0 H7 _ := But.pd (o := .dict (posD 56 59 61 62 63 sd))
  have G8 := G7.low (b8.low pa0_ok)
  have Z8 := Z7.low (b8.low pa0_ok)
  have S8 := S7.keep (but_lo b8)
  have l8 : (H7.set 56 (.dict (posD 56 59 61 62 63 sd))).length = 64 := by rw [List.length_set, l7, l6]
  rw [show H7.set 56 (AO.dict [(14, AV.ref 3), (15, AV.ref 55), (16, AV.ref 59), (17, AV.ref 61), (18, AV.ref 62), (19, AV.int sd), (20, AV.int 0), (21, AV.int (-1)), (22, AV.int 0), (3, AV.int 1), (23, AV.int 0), (24, AV.ref 63)]) = H7.set 56 (.dict (posD 56 59 61 62 63 sd)) from rfl]
  rw [show H7.set pa0.pd (.dict (posD pa0.pd pa0.bo pa0.ki pa0.si pa0.hs sd)) = H7.set 56 (.dict (posD 56 59 61 62 63 sd)) from rfl] at P8
  rw [show pa0.pd = 56 from rfl] at b8 G8 Z8 S8
  generalize H7.set 56 (.dict (posD 56 59 61 62 63 sd)) = H8 at P8 b8 G8 Z8 S8 l8 ⊢
  have K8 : BoardOk f r { B6 with side := sd } := ⟨K6.sz, K6.bl, K6.man, K6.kl, hsd, K6.kb, K6.sb⟩
  have hk : ∃ k k', King1 { B6 with side := sd } sd k ∧ King1 { B6 with side := sd } (1 - sd) k' := by
    match sd, hsd with
    | 0, _ => exact ⟨s1, s2, k6', k6⟩
    | 1, _ => exact ⟨s2, s1, k6, k6'⟩
    | n + 2, h => exact absurd h (by omega)
  obtain ⟨k, k', hk, hk'⟩ := hk
  refine st_forR ?_
  simp only [wE, wEs, wT, wVar, lget, lset, wBin, binI, cmpA, cmpI, cmpB, truthA, wGetA, getF, wGetI, wSetA, putF, wSetI, wApp, rangeA, List.append_eq, List.cons_append, List.nil_append, List.length_cons, List.length_nil, List.replicate, ↓reduceIte, Nat.reduceEqDiff, if_true, if_false, List.getElem?_cons_zero, List.getElem?_cons_succ, Int.toNat_zero, Int.toNat_one, Nat.reduceAdd, Nat.reduceSub, Int.toNat_natCast, Int.reduceToNat, band_nat, bor_nat, bxor_nat, bandn_nat, band_7, band_15, band_1, bor_0, shr_1, shr_2, shr_3, shr_4, shr_8, shr_16, shr_32, shl_1, shr_v]
  refine ⟨by decide, .inr ⟨ns, 5, 7, rfl, S8, by decide, by decide, fun n H9 hn S9 g9 l9 => ?_⟩⟩
  have I8 : LoopI H8 f r { B6 with side := sd } ns 5 k k' := ⟨G8, Z8, P8, K8, hk, hk', S8, by omega⟩
  have I9 := I8.tally S9 g9 l9
  simp only [wE, wEs, wT, wVar, lget, lset, wBin, binI, cmpA, cmpI, cmpB, truthA, wGetA, getF, wGetI, wSetA, putF, wSetI, wApp, rangeA, List.append_eq, List.cons_append, List.nil_append, List.length_cons, List.length_nil, List.replicate, ↓reduceIte, Nat.reduceEqDiff, if_true, if_false, List.getElem?_cons_zero, List.getElem?_cons_succ, Int.toNat_zero, Int.toNat_one, Nat.reduceAdd, Nat.reduceSub, Int.toNat_natCast, Int.reduceToNat, band_nat, bor_nat, bxor_nat, bandn_nat, band_7, band_15, band_1, bor_0, shr_1, shr_2, shr_3, shr_4, shr_8, shr_16, shr_32, shl_1, shr_v]
  refine ⟨⟨by decide, by omega, .inl rfl⟩, ?_⟩
  refine lb_loop _ H9 _ _ _ _ _ _ (rv_int _ _ _) I9 (by rw [rv_len]; omega) fun H' B' c' t x y z I hc => nx_next (st_ret ?_)
  simp only [wE, wEs, wT, wVar, lget, lset, wBin, binI, cmpA, cmpI, cmpB, truthA, wGetA, getF, wGetI, wSetA, putF, wSetI, wApp, rangeA, List.append_eq, List.cons_append, List.nil_append, List.length_cons, List.length_nil, List.replicate, ↓reduceIte, Nat.reduceEqDiff, if_true, if_false, List.getElem?_cons_zero, List.getElem?_cons_succ, Int.toNat_zero, Int.toNat_one, Nat.reduceAdd, Nat.reduceSub, Int.toNat_natCast, Int.reduceToNat, band_nat, bor_nat, bxor_nat, bandn_nat, band_7, band_15, band_1, bor_0, shr_1, shr_2, shr_3, shr_4, shr_8, shr_16, shr_32, shl_1, shr_v]
  exact q f r B' c' k k' H' I.G I.Z I.P I.K I.k I.k' I.S (by omega) I.l
end Mine

namespace Mine
theorem CallOk.mono {Z : Wd} {r r' : Nat} {v : Value} {W W' : Wp} (h : CallOk Z r v W) (hr : r ≤ r') (hw : ∀ args H Q, W' args H Q → W args H Q) : CallOk Z r' v W' :=
  fun args H Q w A env outer A₀ base h₀ L m s ad news vs Qc Ec h1 h2 h3 h4 h5 h6 h7 h8 F R i k => h args H Q (hw args H Q w) A env outer A₀ base h₀ L m s ad news vs Qc Ec h1 h2 h3 h4 h5 h6 h7 (by omega) F R i k
theorem below_ok {f m ρ : Nat} (hr : rk f = ρ + 1) : ∀ g args H v H', below f (Cr m) g args H = some (v, H') → ∀ Q : AV → Hp → Prop, Q v H' → Oo ρ g args H Q := by
  intro g args H v H' h Q q
  unfold below at h
  split at h
  · rename_i hb
    have : rk g < rk f := by
      have := Nat.ble_eq.mp hb
      omega
    exact ⟨by omega, .inl ⟨m, v, H', h, q⟩⟩
  · cases h
theorem run_def {f ρ np nv : Nat} {b : List S} (hr : rk f = ρ + 1) (hb : bodyOf f = some (np, nv, b, false)) {args : List AV} {H : Hp} {Q : AV → Hp → Prop} (h : Run f args H Q) :
    args.length = np ∧ wSs (Oo ρ) b (args ++ List.replicate (nv - np) .undef) H (fun fl _ H' => Q (retOf fl) H') := by
  obtain ⟨m, v, H', e, q⟩ := h
  cases m with
  | zero => cases e
  | succ m =>
    unfold Cr at e
    rw [hb] at e
    simp only [Option.bind_some, Bool.false_eq_true, if_false] at e
    split at e
    · rename_i hl
      obtain ⟨x, hx, e'⟩ := Option.map_eq_some_iff.mp e
      obtain ⟨x1, x2, x3⟩ := x
      cases e'
      exact ⟨hl, rSs_ok (below_ok hr) b _ _ _ _ _ hx _ q⟩
    · cases e
theorem run_cls {f ρ np nv : Nat} {b : List S} (hr : rk f = ρ + 1) (hb : bodyOf f = some (np, nv, b, true)) {args : List AV} {H : Hp} {Q : AV → Hp → Prop} (h : Run f args H Q) :
    args.length + 1 = np ∧ wSs (Oo ρ) b (.ref (H.length + 1) :: args ++ List.replicate (nv - np) .undef) (H ++ [.dict [], .inst H.length]) (Ini H Q) := by
  obtain ⟨m, v, H', e, q⟩ := h
  cases m with
  | zero => cases e
  | succ m =>
    unfold Cr at e
    rw [hb] at e
    simp only [Option.bind_some, if_true] at e
    split at e
    · rename_i hl
      obtain ⟨x, hx, e'⟩ := Option.bind_eq_some_iff.mp e
      obtain ⟨x1, x2, x3⟩ := x
      dsimp only at e'
      split at e'
      · rename_i hn
        cases e'
        refine ⟨hl, rSs_ok (below_ok hr) b _ _ _ _ _ hx _ ?_⟩
        unfold Ini
        rw [hn]
        exact q
      · cases e'
    · cases e
theorem run_none {f : Nat} (hb : bodyOf f = none) {args : List AV} {H : Hp} {Q : AV → Hp → Prop} (h : Run f args H Q) : False := by
  obtain ⟨m, v, H', e, q⟩ := h
  cases m with
  | zero => cases e
  | succ m =>
    unfold Cr at e
    rw [hb] at e
    cases e
section
variable {K : Frag} (CK : Chk K) (w : World) (mean : ExcName → Option Value) (mg mb : Str → Option Value)
noncomputable abbrev Orac (ρ : Nat) : Prop := ∀ f v, theFtab[f]? = some v → CallOk (ZZ CK w mean mg mb) (2 * ρ) v (Oo ρ f)
theorem cls_fin {ρ : Nat} {C fI np : Nat} {b : List S} {k : Nat} {Spf : Wp} (hC : C ∈ theClss) (hm : makesIn K C = true) (hi : findIn K (.ref C) (Str.ofString "__init__") = some (some (.ref fI))) (hf : isFn K (.ref fI) = true)
    (h : CodeOk (ZZ CK w mean mg mb) (2 * ρ + 1) fI (fun args H Q => args.length = np ∧ wSs (Oo ρ) b (args ++ List.replicate k .undef) H (fun fl _ H' => Q (retOf fl) H')))
    (hs : ∀ args H Q, Spf args H Q → args.length + 1 = np ∧ wSs (Oo ρ) b (.ref (H.length + 1) :: args ++ List.replicate k .undef) (H ++ [.dict [], .inst H.length]) (Ini H Q)) : CallOk (ZZ CK w mean mg mb) (2 * (ρ + 1)) (.ref C) Spf := by
  refine (cls_ok (Z := ZZ CK w mean mg mb) hC hm hi hf h).mono (by omega) fun args H Q sp => ?_
  exact hs args H Q sp

theorem ok_make_piece (orc : Orac CK w mean mg mb 0) : CallOk (ZZ CK w mean mg mb) (2 * 1) (.ref 21) (Sp 0) := by
  refine ((link CK w mean mg mb (O := Oo 0) (np := 2) (df_at CK (k := 0) rfl).1 (bind_make_piece CK) (df_at CK (k := 0) rfl).2.1 nd_make_piece (df_at CK (k := 0) rfl).2.2.2 orc (W := Sp 0) fun args H Q h => ?_)).call.mono (by omega) fun _ _ _ h => h
  rcases h with h | h
  · exact (run_none (f := 0) rfl h).elim
  · exact body_make_piece args H Q h
theorem ok_side_of (orc : Orac CK w mean mg mb 0) : CallOk (ZZ CK w mean mg mb) (2 * 1) (.ref 28) (Sp 1) := by
  refine ((link CK w mean mg mb (O := Oo 0) (np := 1) (df_at CK (k := 1) rfl).1 (bind_side_of CK) (df_at CK (k := 1) rfl).2.1 nd_side_of (df_at CK (k := 1) rfl).2.2.2 orc (W := Sp 1) fun args H Q h => ?_)).call.mono (by omega) fun _ _ _ h => h
  rcases h with h | h
  · exact (run_none (f := 1) rfl h).elim
  · exact body_side_of args H Q h
theorem ok_kind_of (orc : Orac CK w mean mg mb 0) : CallOk (ZZ CK w mean mg mb) (2 * 1) (.ref 35) (Sp 2) := by
  refine ((link CK w mean mg mb (O := Oo 0) (np := 1) (df_at CK (k := 2) rfl).1 (bind_kind_of CK) (df_at CK (k := 2) rfl).2.1 nd_kind_of (df_at CK (k := 2) rfl).2.2.2 orc (W := Sp 2) fun args H Q h => ?_)).call.mono (by omega) fun _ _ _ h => h
  rcases h with h | h
  · exact (run_none (f := 2) rfl h).elim
  · exact body_kind_of args H Q h
theorem ok_highest (orc : Orac CK w mean mg mb 0) : CallOk (ZZ CK w mean mg mb) (2 * 1) (.ref 42) (Sp 3) := by
  refine ((link CK w mean mg mb (O := Oo 0) (np := 1) (df_at CK (k := 3) rfl).1 (bind_highest CK) (df_at CK (k := 3) rfl).2.1 nd_highest (df_at CK (k := 3) rfl).2.2.2 orc (W := Sp 3) fun args H Q h => ?_)).call.mono (by omega) fun _ _ _ h => h
  rcases h with h | h
  · exact run_def (f := 3) (ρ := 0) rfl rfl h
  · exact (h : False).elim
theorem ok_lowest (orc : Orac CK w mean mg mb 1) : CallOk (ZZ CK w mean mg mb) (2 * 2) (.ref 49) (Sp 4) := by
  refine ((link CK w mean mg mb (O := Oo 1) (np := 1) (df_at CK (k := 4) rfl).1 (bind_lowest CK) (df_at CK (k := 4) rfl).2.1 nd_lowest (df_at CK (k := 4) rfl).2.2.2 orc (W := Sp 4) fun args H Q h => ?_)).call.mono (by omega) fun _ _ _ h => h
  rcases h with h | h
  · exact run_def (f := 4) (ρ := 1) rfl rfl h
  · exact (h : False).elim
theorem ok_squares_of (orc : Orac CK w mean mg mb 0) : CallOk (ZZ CK w mean mg mb) (2 * 1) (.ref 56) (Sp 5) := by
  refine ((link CK w mean mg mb (O := Oo 0) (np := 1) (df_at CK (k := 5) rfl).1 (bind_squares_of CK) (df_at CK (k := 5) rfl).2.1 nd_squares_of (df_at CK (k := 5) rfl).2.2.2 orc (W := Sp 5) fun args H Q h => ?_)).call.mono (by omega) fun _ _ _ h => h
  rcases h with h | h
  · exact (run_none (f := 5) rfl h).elim
  · exact body_squares_of args H Q h
theorem ok_Geometry (orc : Orac CK w mean mg mb 1) : CallOk (ZZ CK w mean mg mb) (2 * 2) (.ref 95) (Sp 6) := by
  refine cls_fin CK w mean mg mb (np := 5) (b := b_Geometry) (k := 0) (by decide) (mk_at CK (k := 0) rfl).1 (mk_at CK (k := 0) rfl).2.1 (mk_at CK (k := 0) rfl).2.2 (link CK w mean mg mb (O := Oo 1) (np := 5) (df_at CK (k := 6) rfl).1 (bind_Geometry CK) (df_at CK (k := 6) rfl).2.1 nd_Geometry (df_at CK (k := 6) rfl).2.2.2 orc fun _ _ _ h => h) fun args H Q h => ?_
  rcases h with h | h
  · exact run_cls (f := 6) (ρ := 1) rfl rfl h
  · exact (h : False).elim
theorem ok_is_growing (orc : Orac CK w mean mg mb 0) : CallOk (ZZ CK w mean mg mb) (2 * 1) (.ref 106) (Sp 7) := by
  refine ((link CK w mean mg mb (O := Oo 0) (np := 1) (df_at CK (k := 7) rfl).1 (bind_is_growing CK) (df_at CK (k := 7) rfl).2.1 nd_is_growing (df_at CK (k := 7) rfl).2.2.2 orc (W := Sp 7) fun args H Q h => ?_)).call.mono (by omega) fun _ _ _ h => h
  rcases h with h | h
  · exact run_def (f := 7) (ρ := 0) rfl rfl h
  · exact (h : False).elim
theorem ok_add_masks (orc : Orac CK w mean mg mb 0) : CallOk (ZZ CK w mean mg mb) (2 * 1) (.ref 113) (Sp 8) := by
  refine ((link CK w mean mg mb (O := Oo 0) (np := 1) (df_at CK (k := 8) rfl).1 (bind_add_masks CK) (df_at CK (k := 8) rfl).2.1 nd_add_masks (df_at CK (k := 8) rfl).2.2.2 orc (W := Sp 8) fun args H Q h => ?_)).call.mono (by omega) fun _ _ _ h => h
  rcases h with h | h
  · exact run_def (f := 8) (ρ := 0) rfl rfl h
  · exact (h : False).elim
theorem ok_inner_squares (orc : Orac CK w mean mg mb 0) : CallOk (ZZ CK w mean mg mb) (2 * 1) (.ref 120) (Sp 9) := by
  refine ((link CK w mean mg mb (O := Oo 0) (np := 2) (df_at CK (k := 9) rfl).1 (bind_inner_squares CK) (df_at CK (k := 9) rfl).2.1 nd_inner_squares (df_at CK (k := 9) rfl).2.2.2 orc (W := Sp 9) fun args H Q h => ?_)).call.mono (by omega) fun _ _ _ h => h
  rcases h with h | h
  · exact run_def (f := 9) (ρ := 0) rfl rfl h
  · exact (h : False).elim
theorem ok_add_rays (orc : Orac CK w mean mg mb 1) : CallOk (ZZ CK w mean mg mb) (2 * 2) (.ref 127) (Sp 10) := by
  refine ((link CK w mean mg mb (O := Oo 1) (np := 1) (df_at CK (k := 10) rfl).1 (bind_add_rays CK) (df_at CK (k := 10) rfl).2.1 nd_add_rays (df_at CK (k := 10) rfl).2.2.2 orc (W := Sp 10) fun args H Q h => ?_)).call.mono (by omega) fun _ _ _ h => h
  rcases h with h | h
  · exact run_def (f := 10) (ρ := 1) rfl rfl h
  · exact (h : False).elim
theorem ok_add_pawns (orc : Orac CK w mean mg mb 0) : CallOk (ZZ CK w mean mg mb) (2 * 1) (.ref 134) (Sp 11) := by
  refine ((link CK w mean mg mb (O := Oo 0) (np := 1) (df_at CK (k := 11) rfl).1 (bind_add_pawns CK) (df_at CK (k := 11) rfl).2.1 nd_add_pawns (df_at CK (k := 11) rfl).2.2.2 orc (W := Sp 11) fun args H Q h => ?_)).call.mono (by omega) fun _ _ _ h => h
  rcases h with h | h
  · exact run_def (f := 11) (ρ := 0) rfl rfl h
  · exact (h : False).elim
theorem ok_add_knights (orc : Orac CK w mean mg mb 0) : CallOk (ZZ CK w mean mg mb) (2 * 1) (.ref 141) (Sp 12) := by
  refine ((link CK w mean mg mb (O := Oo 0) (np := 1) (df_at CK (k := 12) rfl).1 (bind_add_knights CK) (df_at CK (k := 12) rfl).2.1 nd_add_knights (df_at CK (k := 12) rfl).2.2.2 orc (W := Sp 12) fun args H Q h => ?_)).call.mono (by omega) fun _ _ _ h => h
  rcases h with h | h
  · exact run_def (f := 12) (ρ := 0) rfl rfl h
  · exact (h : False).elim
theorem ok_add_castles (orc : Orac CK w mean mg mb 0) : CallOk (ZZ CK w mean mg mb) (2 * 1) (.ref 148) (Sp 13) := by
  refine ((link CK w mean mg mb (O := Oo 0) (np := 1) (df_at CK (k := 13) rfl).1 (bind_add_castles CK) (df_at CK (k := 13) rfl).2.1 nd_add_castles (df_at CK (k := 13) rfl).2.2.2 orc (W := Sp 13) fun args H Q h => ?_)).call.mono (by omega) fun _ _ _ h => h
  rcases h with h | h
  · exact run_def (f := 13) (ρ := 0) rfl rfl h
  · exact (h : False).elim
theorem ok_make_geometry (orc : Orac CK w mean mg mb 2) : CallOk (ZZ CK w mean mg mb) (2 * 3) (.ref 155) (Sp 14) := by
  refine ((link CK w mean mg mb (O := Oo 2) (np := 4) (df_at CK (k := 14) rfl).1 (bind_make_geometry CK) (df_at CK (k := 14) rfl).2.1 nd_make_geometry (df_at CK (k := 14) rfl).2.2.2 orc (W := Sp 14) fun args H Q h => ?_)).call.mono (by omega) fun _ _ _ h => h
  rcases h with h | h
  · exact run_def (f := 14) (ρ := 2) rfl rfl h
  · exact (h : False).elim
theorem ok_ray_attacks (orc : Orac CK w mean mg mb 1) : CallOk (ZZ CK w mean mg mb) (2 * 2) (.ref 162) (Sp 15) := by
  refine ((link CK w mean mg mb (O := Oo 1) (np := 4) (df_at CK (k := 15) rfl).1 (bind_ray_attacks CK) (df_at CK (k := 15) rfl).2.1 nd_ray_attacks (df_at CK (k := 15) rfl).2.2.2 orc (W := Sp 15) fun args H Q h => ?_)).call.mono (by omega) fun _ _ _ h => h
  rcases h with h | h
  · exact (run_none (f := 15) rfl h).elim
  · exact body_ray args H Q h
theorem ok_rook_attacks (orc : Orac CK w mean mg mb 2) : CallOk (ZZ CK w mean mg mb) (2 * 3) (.ref 169) (Sp 16) := by
  refine ((link CK w mean mg mb (O := Oo 2) (np := 3) (df_at CK (k := 16) rfl).1 (bind_rook_attacks CK) (df_at CK (k := 16) rfl).2.1 nd_rook_attacks (df_at CK (k := 16) rfl).2.2.2 orc (W := Sp 16) fun args H Q h => ?_)).call.mono (by omega) fun _ _ _ h => h
  rcases h with h | h
  · exact (run_none (f := 16) rfl h).elim
  · exact body_rook args H Q h
theorem ok_bishop_attacks (orc : Orac CK w mean mg mb 2) : CallOk (ZZ CK w mean mg mb) (2 * 3) (.ref 176) (Sp 17) := by
  refine ((link CK w mean mg mb (O := Oo 2) (np := 3) (df_at CK (k := 17) rfl).1 (bind_bishop_attacks CK) (df_at CK (k := 17) rfl).2.1 nd_bishop_attacks (df_at CK (k := 17) rfl).2.2.2 orc (W := Sp 17) fun args H Q h => ?_)).call.mono (by omega) fun _ _ _ h => h
  rcases h with h | h
  · exact (run_none (f := 17) rfl h).elim
  · exact body_bishop args H Q h
theorem ok_queen_attacks (orc : Orac CK w mean mg mb 3) : CallOk (ZZ CK w mean mg mb) (2 * 4) (.ref 183) (Sp 18) := by
  refine ((link CK w mean mg mb (O := Oo 3) (np := 3) (df_at CK (k := 18) rfl).1 (bind_queen_attacks CK) (df_at CK (k := 18) rfl).2.1 nd_queen_attacks (df_at CK (k := 18) rfl).2.2.2 orc (W := Sp 18) fun args H Q h => ?_)).call.mono (by omega) fun _ _ _ h => h
  rcases h with h | h
  · exact (run_none (f := 18) rfl h).elim
  · exact body_queen args H Q h
theorem ok_slider_attacks (orc : Orac CK w mean mg mb 4) : CallOk (ZZ CK w mean mg mb) (2 * 5) (.ref 190) (Sp 19) := by
  refine ((link CK w mean mg mb (O := Oo 4) (np := 4) (df_at CK (k := 19) rfl).1 (bind_slider_attacks CK) (df_at CK (k := 19) rfl).2.1 nd_slider_attacks (df_at CK (k := 19) rfl).2.2.2 orc (W := Sp 19) fun args H Q h => ?_)).call.mono (by omega) fun _ _ _ h => h
  rcases h with h | h
  · exact (run_none (f := 19) rfl h).elim
  · exact body_slider args H Q h
theorem ok_piece_attacks (orc : Orac CK w mean mg mb 5) : CallOk (ZZ CK w mean mg mb) (2 * 6) (.ref 197) (Sp 20) := by
  refine ((link CK w mean mg mb (O := Oo 5) (np := 5) (df_at CK (k := 20) rfl).1 (bind_piece_attacks CK) (df_at CK (k := 20) rfl).2.1 nd_piece_attacks (df_at CK (k := 20) rfl).2.2.2 orc (W := Sp 20) fun args H Q h => ?_)).call.mono (by omega) fun _ _ _ h => h
  rcases h with h | h
  · exact (run_none (f := 20) rfl h).elim
  · exact body_piece args H Q h
theorem ok_Position (orc : Orac CK w mean mg mb 1) : CallOk (ZZ CK w mean mg mb) (2 * 2) (.ref 214) (Sp 21) := by
  refine cls_fin CK w mean mg mb (np := 3) (b := b_Position) (k := 0) (by decide) (mk_at CK (k := 1) rfl).1 (mk_at CK (k := 1) rfl).2.1 (mk_at CK (k := 1) rfl).2.2 (link CK w mean mg mb (O := Oo 1) (np := 3) (df_at CK (k := 21) rfl).1 (bind_Position CK) (df_at CK (k := 21) rfl).2.1 nd_Position (df_at CK (k := 21) rfl).2.2.2 orc fun _ _ _ h => h) fun args H Q h => ?_
  rcases h with h | h
  · exact run_cls (f := 21) (ρ := 1) rfl rfl h
  · exact body_Position args H Q h
theorem ok_put_piece (orc : Orac CK w mean mg mb 1) : CallOk (ZZ CK w mean mg mb) (2 * 2) (.ref 225) (Sp 22) := by
  refine ((link CK w mean mg mb (O := Oo 1) (np := 3) (df_at CK (k := 22) rfl).1 (bind_put_piece CK) (df_at CK (k := 22) rfl).2.1 nd_put_piece (df_at CK (k := 22) rfl).2.2.2 orc (W := Sp 22) fun args H Q h => ?_)).call.mono (by omega) fun _ _ _ h => h
  rcases h with h | h
  · exact (run_none (f := 22) rfl h).elim
  · exact body_put args H Q h
theorem ok_take_piece (orc : Orac CK w mean mg mb 1) : CallOk (ZZ CK w mean mg mb) (2 * 2) (.ref 232) (Sp 23) := by
  refine ((link CK w mean mg mb (O := Oo 1) (np := 2) (df_at CK (k := 23) rfl).1 (bind_take_piece CK) (df_at CK (k := 23) rfl).2.1 nd_take_piece (df_at CK (k := 23) rfl).2.2.2 orc (W := Sp 23) fun args H Q h => ?_)).call.mono (by omega) fun _ _ _ h => h
  rcases h with h | h
  · exact (run_none (f := 23) rfl h).elim
  · exact body_take args H Q h
theorem ok_shift_piece (orc : Orac CK w mean mg mb 1) : CallOk (ZZ CK w mean mg mb) (2 * 2) (.ref 239) (Sp 24) := by
  refine ((link CK w mean mg mb (O := Oo 1) (np := 3) (df_at CK (k := 24) rfl).1 (bind_shift_piece CK) (df_at CK (k := 24) rfl).2.1 nd_shift_piece (df_at CK (k := 24) rfl).2.2.2 orc (W := Sp 24) fun args H Q h => ?_)).call.mono (by omega) fun _ _ _ h => h
  rcases h with h | h
  · exact (run_none (f := 24) rfl h).elim
  · exact body_shift args H Q h
theorem ok_occupied (orc : Orac CK w mean mg mb 0) : CallOk (ZZ CK w mean mg mb) (2 * 1) (.ref 246) (Sp 25) := by
  refine ((link CK w mean mg mb (O := Oo 0) (np := 1) (df_at CK (k := 25) rfl).1 (bind_occupied CK) (df_at CK (k := 25) rfl).2.1 nd_occupied (df_at CK (k := 25) rfl).2.2.2 orc (W := Sp 25) fun args H Q h => ?_)).call.mono (by omega) fun _ _ _ h => h
  rcases h with h | h
  · exact (run_none (f := 25) rfl h).elim
  · exact body_occupied args H Q h
theorem ok_king_square (orc : Orac CK w mean mg mb 2) : CallOk (ZZ CK w mean mg mb) (2 * 3) (.ref 253) (Sp 26) := by
  refine ((link CK w mean mg mb (O := Oo 2) (np := 2) (df_at CK (k := 26) rfl).1 (bind_king_square CK) (df_at CK (k := 26) rfl).2.1 nd_king_square (df_at CK (k := 26) rfl).2.2.2 orc (W := Sp 26) fun args H Q h => ?_)).call.mono (by omega) fun _ _ _ h => h
  rcases h with h | h
  · exact (run_none (f := 26) rfl h).elim
  · exact body_king_square args H Q h
theorem ok_copy_position (orc : Orac CK w mean mg mb 2) : CallOk (ZZ CK w mean mg mb) (2 * 3) (.ref 260) (Sp 27) := by
  refine ((link CK w mean mg mb (O := Oo 2) (np := 1) (df_at CK (k := 27) rfl).1 (bind_copy_position CK) (df_at CK (k := 27) rfl).2.1 nd_copy_position (df_at CK (k := 27) rfl).2.2.2 orc (W := Sp 27) fun args H Q h => ?_)).call.mono (by omega) fun _ _ _ h => h
  rcases h with h | h
  · exact (run_none (f := 27) rfl h).elim
  · exact body_copy args H Q h
theorem ok_straight_sliders (orc : Orac CK w mean mg mb 0) : CallOk (ZZ CK w mean mg mb) (2 * 1) (.ref 267) (Sp 28) := by
  refine ((link CK w mean mg mb (O := Oo 0) (np := 1) (df_at CK (k := 28) rfl).1 (bind_straight_sliders CK) (df_at CK (k := 28) rfl).2.1 nd_straight_sliders (df_at CK (k := 28) rfl).2.2.2 orc (W := Sp 28) fun args H Q h => ?_)).call.mono (by omega) fun _ _ _ h => h
  rcases h with h | h
  · exact (run_none (f := 28) rfl h).elim
  · exact body_straight args H Q h
theorem ok_slanting_sliders (orc : Orac CK w mean mg mb 0) : CallOk (ZZ CK w mean mg mb) (2 * 1) (.ref 274) (Sp 29) := by
  refine ((link CK w mean mg mb (O := Oo 0) (np := 1) (df_at CK (k := 29) rfl).1 (bind_slanting_sliders CK) (df_at CK (k := 29) rfl).2.1 nd_slanting_sliders (df_at CK (k := 29) rfl).2.2.2 orc (W := Sp 29) fun args H Q h => ?_)).call.mono (by omega) fun _ _ _ h => h
  rcases h with h | h
  · exact (run_none (f := 29) rfl h).elim
  · exact body_slanting args H Q h
theorem ok_pawn_attackers (orc : Orac CK w mean mg mb 0) : CallOk (ZZ CK w mean mg mb) (2 * 1) (.ref 281) (Sp 30) := by
  refine ((link CK w mean mg mb (O := Oo 0) (np := 3) (df_at CK (k := 30) rfl).1 (bind_pawn_attackers CK) (df_at CK (k := 30) rfl).2.1 nd_pawn_attackers (df_at CK (k := 30) rfl).2.2.2 orc (W := Sp 30) fun args H Q h => ?_)).call.mono (by omega) fun _ _ _ h => h
  rcases h with h | h
  · exact (run_none (f := 30) rfl h).elim
  · exact body_pawn_attackers args H Q h
theorem ok_step_attackers (orc : Orac CK w mean mg mb 1) : CallOk (ZZ CK w mean mg mb) (2 * 2) (.ref 288) (Sp 31) := by
  refine ((link CK w mean mg mb (O := Oo 1) (np := 3) (df_at CK (k := 31) rfl).1 (bind_step_attackers CK) (df_at CK (k := 31) rfl).2.1 nd_step_attackers (df_at CK (k := 31) rfl).2.2.2 orc (W := Sp 31) fun args H Q h => ?_)).call.mono (by omega) fun _ _ _ h => h
  rcases h with h | h
  · exact (run_none (f := 31) rfl h).elim
  · exact body_step_attackers args H Q h
theorem ok_line_attackers (orc : Orac CK w mean mg mb 3) : CallOk (ZZ CK w mean mg mb) (2 * 4) (.ref 295) (Sp 32) := by
  refine ((link CK w mean mg mb (O := Oo 3) (np := 3) (df_at CK (k := 32) rfl).1 (bind_line_attackers CK) (df_at CK (k := 32) rfl).2.1 nd_line_attackers (df_at CK (k := 32) rfl).2.2.2 orc (W := Sp 32) fun args H Q h => ?_)).call.mono (by omega) fun _ _ _ h => h
  rcases h with h | h
  · exact (run_none (f := 32) rfl h).elim
  · exact body_line args H Q h
theorem ok_attackers_to (orc : Orac CK w mean mg mb 4) : CallOk (ZZ CK w mean mg mb) (2 * 5) (.ref 302) (Sp 33) := by
  refine ((link CK w mean mg mb (O := Oo 4) (np := 3) (df_at CK (k := 33) rfl).1 (bind_attackers_to CK) (df_at CK (k := 33) rfl).2.1 nd_attackers_to (df_at CK (k := 33) rfl).2.2.2 orc (W := Sp 33) fun args H Q h => ?_)).call.mono (by omega) fun _ _ _ h => h
  rcases h with h | h
  · exact (run_none (f := 33) rfl h).elim
  · exact body_attackers_to args H Q h
theorem ok_is_attacked (orc : Orac CK w mean mg mb 3) : CallOk (ZZ CK w mean mg mb) (2 * 4) (.ref 309) (Sp 34) := by
  refine ((link CK w mean mg mb (O := Oo 3) (np := 4) (df_at CK (k := 34) rfl).1 (bind_is_attacked CK) (df_at CK (k := 34) rfl).2.1 nd_is_attacked (df_at CK (k := 34) rfl).2.2.2 orc (W := Sp 34) fun args H Q h => ?_)).call.mono (by omega) fun _ _ _ h => h
  rcases h with h | h
  · exact (run_none (f := 34) rfl h).elim
  · exact body_is_attacked args H Q h
theorem ok_checkers_of (orc : Orac CK w mean mg mb 5) : CallOk (ZZ CK w mean mg mb) (2 * 6) (.ref 316) (Sp 35) := by
  refine ((link CK w mean mg mb (O := Oo 5) (np := 2) (df_at CK (k := 35) rfl).1 (bind_checkers_of CK) (df_at CK (k := 35) rfl).2.1 nd_checkers_of (df_at CK (k := 35) rfl).2.2.2 orc (W := Sp 35) fun args H Q h => ?_)).call.mono (by omega) fun _ _ _ h => h
  rcases h with h | h
  · exact (run_none (f := 35) rfl h).elim
  · exact body_checkers_of args H Q h
theorem ok_checkers (orc : Orac CK w mean mg mb 6) : CallOk (ZZ CK w mean mg mb) (2 * 7) (.ref 323) (Sp 36) := by
  refine ((link CK w mean mg mb (O := Oo 6) (np := 1) (df_at CK (k := 36) rfl).1 (bind_checkers CK) (df_at CK (k := 36) rfl).2.1 nd_checkers (df_at CK (k := 36) rfl).2.2.2 orc (W := Sp 36) fun args H Q h => ?_)).call.mono (by omega) fun _ _ _ h => h
  rcases h with h | h
  · exact (run_none (f := 36) rfl h).elim
  · exact body_checkers args H Q h
theorem ok_in_check_of (orc : Orac CK w mean mg mb 4) : CallOk (ZZ CK w mean mg mb) (2 * 5) (.ref 330) (Sp 37) := by
  refine ((link CK w mean mg mb (O := Oo 4) (np := 2) (df_at CK (k := 37) rfl).1 (bind_in_check_of CK) (df_at CK (k := 37) rfl).2.1 nd_in_check_of (df_at CK (k := 37) rfl).2.2.2 orc (W := Sp 37) fun args H Q h => ?_)).call.mono (by omega) fun _ _ _ h => h
  rcases h with h | h
  · exact (run_none (f := 37) rfl h).elim
  · exact body_in_check_of args H Q h
theorem ok_in_check (orc : Orac CK w mean mg mb 5) : CallOk (ZZ CK w mean mg mb) (2 * 6) (.ref 337) (Sp 38) := by
  refine ((link CK w mean mg mb (O := Oo 5) (np := 1) (df_at CK (k := 38) rfl).1 (bind_in_check CK) (df_at CK (k := 38) rfl).2.1 nd_in_check (df_at CK (k := 38) rfl).2.2.2 orc (W := Sp 38) fun args H Q h => ?_)).call.mono (by omega) fun _ _ _ h => h
  rcases h with h | h
  · exact (run_none (f := 38) rfl h).elim
  · exact body_in_check args H Q h
theorem ok_covered_by (orc : Orac CK w mean mg mb 6) : CallOk (ZZ CK w mean mg mb) (2 * 7) (.ref 344) (Sp 39) := by
  refine ((link CK w mean mg mb (O := Oo 6) (np := 3) (df_at CK (k := 39) rfl).1 (bind_covered_by CK) (df_at CK (k := 39) rfl).2.1 nd_covered_by (df_at CK (k := 39) rfl).2.2.2 orc (W := Sp 39) fun args H Q h => ?_)).call.mono (by omega) fun _ _ _ h => h
  rcases h with h | h
  · exact (run_none (f := 39) rfl h).elim
  · exact body_covered args H Q h
theorem ok_attacked_by (orc : Orac CK w mean mg mb 7) : CallOk (ZZ CK w mean mg mb) (2 * 8) (.ref 351) (Sp 40) := by
  refine ((link CK w mean mg mb (O := Oo 7) (np := 2) (df_at CK (k := 40) rfl).1 (bind_attacked_by CK) (df_at CK (k := 40) rfl).2.1 nd_attacked_by (df_at CK (k := 40) rfl).2.2.2 orc (W := Sp 40) fun args H Q h => ?_)).call.mono (by omega) fun _ _ _ h => h
  rcases h with h | h
  · exact (run_none (f := 40) rfl h).elim
  · exact body_attacked_by args H Q h
theorem ok_forbidden_to_king (orc : Orac CK w mean mg mb 7) : CallOk (ZZ CK w mean mg mb) (2 * 8) (.ref 358) (Sp 41) := by
  refine ((link CK w mean mg mb (O := Oo 7) (np := 2) (df_at CK (k := 41) rfl).1 (bind_forbidden_to_king CK) (df_at CK (k := 41) rfl).2.1 nd_forbidden_to_king (df_at CK (k := 41) rfl).2.2.2 orc (W := Sp 41) fun args H Q h => ?_)).call.mono (by omega) fun _ _ _ h => h
  rcases h with h | h
  · exact (run_none (f := 41) rfl h).elim
  · exact body_forbidden args H Q h
theorem ok_king_flights (orc : Orac CK w mean mg mb 8) : CallOk (ZZ CK w mean mg mb) (2 * 9) (.ref 365) (Sp 42) := by
  refine ((link CK w mean mg mb (O := Oo 8) (np := 1) (df_at CK (k := 42) rfl).1 (bind_king_flights CK) (df_at CK (k := 42) rfl).2.1 nd_king_flights (df_at CK (k := 42) rfl).2.2.2 orc (W := Sp 42) fun args H Q h => ?_)).call.mono (by omega) fun _ _ _ h => h
  rcases h with h | h
  · exact (run_none (f := 42) rfl h).elim
  · exact body_king_flights args H Q h
theorem ok_Zobrist (orc : Orac CK w mean mg mb 1) : CallOk (ZZ CK w mean mg mb) (2 * 2) (.ref 382) (Sp 43) := by
  refine cls_fin CK w mean mg mb (np := 5) (b := b_Zobrist) (k := 0) (by decide) (mk_at CK (k := 2) rfl).1 (mk_at CK (k := 2) rfl).2.1 (mk_at CK (k := 2) rfl).2.2 (link CK w mean mg mb (O := Oo 1) (np := 5) (df_at CK (k := 43) rfl).1 (bind_Zobrist CK) (df_at CK (k := 43) rfl).2.1 nd_Zobrist (df_at CK (k := 43) rfl).2.2.2 orc fun _ _ _ h => h) fun args H Q h => ?_
  rcases h with h | h
  · exact run_cls (f := 43) (ρ := 1) rfl rfl h
  · exact (h : False).elim
theorem ok_law_tally (orc : Orac CK w mean mg mb 0) : CallOk (ZZ CK w mean mg mb) (2 * 1) (.ref 393) (Sp 44) := by
  refine ((link CK w mean mg mb (O := Oo 0) (np := 2) (df_at CK (k := 44) rfl).1 (bind_law_tally CK) (df_at CK (k := 44) rfl).2.1 nd_law_tally (df_at CK (k := 44) rfl).2.2.2 orc (W := Sp 44) fun args H Q h => ?_)).call.mono (by omega) fun _ _ _ h => h
  rcases h with h | h
  · exact (run_none (f := 44) rfl h).elim
  · exact body_tally args H Q h
theorem ok_law_board (orc : Orac CK w mean mg mb 3) : CallOk (ZZ CK w mean mg mb) (2 * 4) (.ref 400) (Sp 45) := by
  refine ((link CK w mean mg mb (O := Oo 3) (np := 1) (df_at CK (k := 45) rfl).1 (bind_law_board CK) (df_at CK (k := 45) rfl).2.1 nd_law_board (df_at CK (k := 45) rfl).2.2.2 orc (W := Sp 45) fun args H Q h => ?_)).call.mono (by omega) fun _ _ _ h => h
  rcases h with h | h
  · exact (run_none (f := 45) rfl h).elim
  · exact body_board args H Q h
theorem ok_law_is_safe (orc : Orac CK w mean mg mb 6) : CallOk (ZZ CK w mean mg mb) (2 * 7) (.ref 407) (Sp 46) := by
  refine ((link CK w mean mg mb (O := Oo 6) (np := 3) (df_at CK (k := 46) rfl).1 (bind_law_is_safe CK) (df_at CK (k := 46) rfl).2.1 nd_law_is_safe (df_at CK (k := 46) rfl).2.2.2 orc (W := Sp 46) fun args H Q h => ?_)).call.mono (by omega) fun _ _ _ h => h
  rcases h with h | h
  · exact (run_none (f := 46) rfl h).elim
  · exact body_safe args H Q h
theorem all_ok : ∀ (ρ f : Nat) (v : Value), theFtab[f]? = some v → rk f ≤ ρ → CallOk (ZZ CK w mean mg mb) (2 * rk f) v (Sp f) := by
  intro ρ
  induction ρ using Nat.strongRecOn with
  | ind ρ ih =>
    intro f v hf hr
    have orc : ∀ σ, σ < ρ → Orac CK w mean mg mb σ := fun σ hσ g u hg args H Q h => ((ih σ hσ g u hg h.1).mono (by have := h.1; omega) fun _ _ _ q => q) args H Q h.2
    match f, hf, hr with
    | 0, hf, hr => cases hf; exact ok_make_piece CK w mean mg mb (orc 0 hr)
    | 1, hf, hr => cases hf; exact ok_side_of CK w mean mg mb (orc 0 hr)
    | 2, hf, hr => cases hf; exact ok_kind_of CK w mean mg mb (orc 0 hr)
    | 3, hf, hr => cases hf; exact ok_highest CK w mean mg mb (orc 0 hr)
    | 4, hf, hr => cases hf; exact ok_lowest CK w mean mg mb (orc 1 hr)
    | 5, hf, hr => cases hf; exact ok_squares_of CK w mean mg mb (orc 0 hr)
    | 6, hf, hr => cases hf; exact ok_Geometry CK w mean mg mb (orc 1 hr)
    | 7, hf, hr => cases hf; exact ok_is_growing CK w mean mg mb (orc 0 hr)
    | 8, hf, hr => cases hf; exact ok_add_masks CK w mean mg mb (orc 0 hr)
    | 9, hf, hr => cases hf; exact ok_inner_squares CK w mean mg mb (orc 0 hr)
    | 10, hf, hr => cases hf; exact ok_add_rays CK w mean mg mb (orc 1 hr)
    | 11, hf, hr => cases hf; exact ok_add_pawns CK w mean mg mb (orc 0 hr)
    | 12, hf, hr => cases hf; exact ok_add_knights CK w mean mg mb (orc 0 hr)
    | 13, hf, hr => cases hf; exact ok_add_castles CK w mean mg mb (orc 0 hr)
    | 14, hf, hr => cases hf; exact ok_make_geometry CK w mean mg mb (orc 2 hr)
    | 15, hf, hr => cases hf; exact ok_ray_attacks CK w mean mg mb (orc 1 hr)
    | 16, hf, hr => cases hf; exact ok_rook_attacks CK w mean mg mb (orc 2 hr)
    | 17, hf, hr => cases hf; exact ok_bishop_attacks CK w mean mg mb (orc 2 hr)
    | 18, hf, hr => cases hf; exact ok_queen_attacks CK w mean mg mb (orc 3 hr)
    | 19, hf, hr => cases hf; exact ok_slider_attacks CK w mean mg mb (orc 4 hr)
    | 20, hf, hr => cases hf; exact ok_piece_attacks CK w mean mg mb (orc 5 hr)
    | 21, hf, hr => cases hf; exact ok_Position CK w mean mg mb (orc 1 hr)
    | 22, hf, hr => cases hf; exact ok_put_piece CK w mean mg mb (orc 1 hr)
    | 23, hf, hr => cases hf; exact ok_take_piece CK w mean mg mb (orc 1 hr)
    | 24, hf, hr => cases hf; exact ok_shift_piece CK w mean mg mb (orc 1 hr)
    | 25, hf, hr => cases hf; exact ok_occupied CK w mean mg mb (orc 0 hr)
    | 26, hf, hr => cases hf; exact ok_king_square CK w mean mg mb (orc 2 hr)
    | 27, hf, hr => cases hf; exact ok_copy_position CK w mean mg mb (orc 2 hr)
    | 28, hf, hr => cases hf; exact ok_straight_sliders CK w mean mg mb (orc 0 hr)
    | 29, hf, hr => cases hf; exact ok_slanting_sliders CK w mean mg mb (orc 0 hr)
    | 30, hf, hr => cases hf; exact ok_pawn_attackers CK w mean mg mb (orc 0 hr)
    | 31, hf, hr => cases hf; exact ok_step_attackers CK w mean mg mb (orc 1 hr)
    | 32, hf, hr => cases hf; exact ok_line_attackers CK w mean mg mb (orc 3 hr)
    | 33, hf, hr => cases hf; exact ok_attackers_to CK w mean mg mb (orc 4 hr)
    | 34, hf, hr => cases hf; exact ok_is_attacked CK w mean mg mb (orc 3 hr)
    | 35, hf, hr => cases hf; exact ok_checkers_of CK w mean mg mb (orc 5 hr)
    | 36, hf, hr => cases hf; exact ok_checkers CK w mean mg mb (orc 6 hr)
    | 37, hf, hr => cases hf; exact ok_in_check_of CK w mean mg mb (orc 4 hr)
    | 38, hf, hr => cases hf; exact ok_in_check CK w mean mg mb (orc 5 hr)
    | 39, hf, hr => cases hf; exact ok_covered_by CK w mean mg mb (orc 6 hr)
    | 40, hf, hr => cases hf; exact ok_attacked_by CK w mean mg mb (orc 7 hr)
    | 41, hf, hr => cases hf; exact ok_forbidden_to_king CK w mean mg mb (orc 7 hr)
    | 42, hf, hr => cases hf; exact ok_king_flights CK w mean mg mb (orc 8 hr)
    | 43, hf, hr => cases hf; exact ok_Zobrist CK w mean mg mb (orc 1 hr)
    | 44, hf, hr => cases hf; exact ok_law_tally CK w mean mg mb (orc 0 hr)
    | 45, hf, hr => cases hf; exact ok_law_board CK w mean mg mb (orc 3 hr)
    | 46, hf, hr => cases hf; exact ok_law_is_safe CK w mean mg mb (orc 6 hr)
    | n + 47, hf, _ => exact absurd hf (by simp [theFtab])
theorem orac (ρ : Nat) : Orac CK w mean mg mb ρ := fun g u hg args H Q h => ((all_ok CK w mean mg mb ρ g u hg h.1).mono (by have := h.1; omega) fun _ _ _ q => q) args H Q h.2
end
end Mine

namespace Mine
/-! the plain law -/
theorem any_bit {x : Nat} : (x != 0) = true ↔ ∃ s, x.testBit s = true := by
  rw [bne_iff_ne]
  constructor
  · intro h
    refine Classical.byContradiction fun q => h (Nat.eq_of_testBit_eq fun i => ?_)
    rw [Nat.zero_testBit]
    cases e : x.testBit i with
    | false => rfl
    | true => exact absurd ⟨i, e⟩ q
  · rintro ⟨s, h⟩ rfl
    simp at h
noncomputable def before (t : Nat) : List Nat → List Nat
  | [] => []
  | a :: l => if a = t then [] else a :: before t l
theorem mem_attL {occ t : Nat} : ∀ {l : List Nat}, t ∈ attL l occ ↔ t ∈ l ∧ ∀ x ∈ before t l, occ.testBit x = false
  | [] => by simp [attL]
  | a :: l => by
    rw [attL, before]
    by_cases e : a = t
    · subst e; simp
    · have e' : ¬ t = a := fun q => e q.symm
      rw [if_neg e]
      cases h : occ.testBit a with
      | true =>
        simp only [if_true, List.mem_cons, e', false_or, List.not_mem_nil, false_iff]
        rintro ⟨_, q⟩
        rw [q a (.inl rfl)] at h; cases h
      | false =>
        simp only [Bool.false_eq_true, if_false, List.mem_cons, e', false_or]
        rw [mem_attL]
        constructor
        · rintro ⟨h1, h2⟩
          refine ⟨h1, fun x hx => ?_⟩
          rcases hx with rfl | hx
          · exact h
          · exact h2 x hx
        · rintro ⟨h1, h2⟩
          exact ⟨h1, fun x hx => h2 x (.inr hx)⟩
theorem before_ne {t x : Nat} : ∀ {l : List Nat}, x ∈ before t l → x ≠ t
  | [], h => by simp [before] at h
  | a :: l, h => by
    rw [before] at h
    split at h
    · simp at h
    · rename_i e
      rcases List.mem_cons.mp h with rfl | h
      · exact e
      · exact before_ne h
theorem before_sub {t k : Nat} : ∀ {l : List Nat}, k ∈ before t l → k ∈ l ∧ ∀ x ∈ before k l, x ∈ before t l
  | [], h => by simp [before] at h
  | a :: l, h => by
    rw [before] at h ⊢
    split at h
    · simp at h
    · rename_i e
      rw [before, if_neg e]
      by_cases q : a = k
      · subst q; simp
      · rw [if_neg q]
        rcases List.mem_cons.mp h with q' | h
        · exact absurd q'.symm q
        obtain ⟨h1, h2⟩ := before_sub h
        refine ⟨.tail _ h1, fun x hx => ?_⟩
        rcases List.mem_cons.mp hx with rfl | hx
        · exact .head _
        · exact .tail _ (h2 x hx)
noncomputable def opp (d : Nat) : Nat := [2, 3, 0, 1, 6, 7, 4, 5].getD d 0
theorem ray_chk : allSq (fun f r s => (List.range 8).all fun d => (rayL f r d s).all fun t => decide (t < f * r) && t != s && (rayL f r (opp d) t).contains s && (before s (rayL f r (opp d) t)).all fun x => (before t (rayL f r d s)).contains x) = true := by kernel_rfl
theorem ray_sym {f r d s t : Nat} (hz : Sz f r) (hs : s < f * r) (hd : d < 8) (h : t ∈ rayL f r d s) : t < f * r ∧ t ≠ s ∧ s ∈ rayL f r (opp d) t ∧ ∀ x ∈ before s (rayL f r (opp d) t), x ∈ before t (rayL f r d s) := by
  have q := List.all_eq_true.mp (List.all_eq_true.mp (allSq_ok ray_chk hz hs) d (List.mem_range.mpr hd)) t h
  simp only [Bool.and_eq_true, decide_eq_true_iff, bne_iff_ne, List.contains_iff_mem, List.all_eq_true] at q
  obtain ⟨⟨⟨q1, q2⟩, q3⟩, q4⟩ := q
  exact ⟨q1, q2, q3, fun x hx => by simpa using q4 x hx⟩
theorem opp_lt {d : Nat} (h : d < 8) : opp d < 8 ∧ opp (opp d) = d ∧ (opp d < 4 ↔ d < 4) := by
  match d, h with
  | 0, _ => decide
  | 1, _ => decide
  | 2, _ => decide
  | 3, _ => decide
  | 4, _ => decide
  | 5, _ => decide
  | 6, _ => decide
  | 7, _ => decide
  | d + 8, h => exact absurd h (by omega)
/-- from s along d the slider sees t -/
noncomputable def Sees (f r d s occ t : Nat) : Prop := t ∈ attL (rayL f r d s) occ
theorem ray_bit {f r d s occ t : Nat} : (rayAtt f r d s occ).testBit t = true ↔ Sees f r d s occ t := by
  unfold rayAtt Sees; rw [testBit_mk]; simp
theorem Sees.flip {f r d s occ t : Nat} (hz : Sz f r) (hs : s < f * r) (hd : d < 8) (h : Sees f r d s occ t) : t < f * r ∧ Sees f r (opp d) t occ s := by
  obtain ⟨h1, h2⟩ := mem_attL.mp h
  obtain ⟨q1, q2, q3, q4⟩ := ray_sym hz hs hd h1
  exact ⟨q1, mem_attL.mpr ⟨q3, fun x hx => h2 x (q4 x hx)⟩⟩
theorem Sees.ne {f r d s occ t : Nat} (hz : Sz f r) (hs : s < f * r) (hd : d < 8) (h : Sees f r d s occ t) : t ≠ s := (ray_sym hz hs hd (mem_attL.mp h).1).2.1
theorem Sees.occ {f r d s occ occ' t : Nat} (h : Sees f r d s occ t) (e : ∀ x, x ≠ t → occ.testBit x = false → occ'.testBit x = false) : Sees f r d s occ' t := by
  obtain ⟨h1, h2⟩ := mem_attL.mp h
  exact mem_attL.mpr ⟨h1, fun x hx => e x (before_ne hx) (h2 x hx)⟩
/-- a blocker k is lifted: then k itself is seen -/
theorem Sees.xray {f r d s occ occ' t k : Nat} (e : ∀ x, x ≠ k → occ'.testBit x = false → occ.testBit x = false) (h : Sees f r d s occ' t) : Sees f r d s occ t ∨ Sees f r d s occ k := by
  obtain ⟨h1, h2⟩ := mem_attL.mp h
  by_cases hk : k ∈ before t (rayL f r d s)
  · right
    obtain ⟨q1, q2⟩ := before_sub hk
    exact mem_attL.mpr ⟨q1, fun x hx => e x (before_ne hx) (h2 x (q2 x hx))⟩
  · left
    exact mem_attL.mpr ⟨h1, fun x hx => e x (fun z => hk (z ▸ hx)) (h2 x hx)⟩
theorem rook_bit {f r s occ t : Nat} : (rookAtt f r s occ).testBit t = true ↔ ∃ d, d < 4 ∧ Sees f r d s occ t := by
  unfold rookAtt
  simp only [Nat.testBit_or, Nat.zero_testBit, Bool.false_or, Bool.or_eq_true, ray_bit]
  constructor
  · rintro (((h | h) | h) | h)
    · exact ⟨0, by decide, h⟩
    · exact ⟨1, by decide, h⟩
    · exact ⟨2, by decide, h⟩
    · exact ⟨3, by decide, h⟩
  · rintro ⟨d, hd, h⟩
    match d, hd with
    | 0, _ => exact .inl (.inl (.inl h))
    | 1, _ => exact .inl (.inl (.inr h))
    | 2, _ => exact .inl (.inr h)
    | 3, _ => exact .inr h
    | d + 4, hd => exact absurd hd (by omega)
theorem bishop_bit {f r s occ t : Nat} : (bishopAtt f r s occ).testBit t = true ↔ ∃ d, 4 ≤ d ∧ d < 8 ∧ Sees f r d s occ t := by
  unfold bishopAtt
  simp only [Nat.testBit_or, Nat.zero_testBit, Bool.false_or, Bool.or_eq_true, ray_bit]
  constructor
  · rintro (((h | h) | h) | h)
    · exact ⟨4, by decide, by decide, h⟩
    · exact ⟨5, by decide, by decide, h⟩
    · exact ⟨6, by decide, by decide, h⟩
    · exact ⟨7, by decide, by decide, h⟩
  · rintro ⟨d, hd4, hd, h⟩
    have : d = 4 ∨ d = 5 ∨ d = 6 ∨ d = 7 := by omega
    rcases this with rfl | rfl | rfl | rfl
    · exact .inl (.inl (.inl h))
    · exact .inl (.inl (.inr h))
    · exact .inl (.inr h)
    · exact .inr h
theorem tabs_chk : allSq (fun f r s => (List.range 16).all fun t => (((knightT f r).getD s 0).testBit t == ((knightT f r).getD t 0).testBit s) && (((kingT f r).getD s 0).testBit t == ((kingT f r).getD t 0).testBit s) &&
    (((pawnT f r 0).getD s 0).testBit t == ((pawnT f r 1).getD t 0).testBit s) && (((pawnT f r 1).getD s 0).testBit t == ((pawnT f r 0).getD t 0).testBit s)) = true := by kernel_rfl
theorem self_chk : allSq (fun f r s => !((knightT f r).getD s 0).testBit s && !((kingT f r).getD s 0).testBit s && !((pawnT f r 0).getD s 0).testBit s && !((pawnT f r 1).getD s 0).testBit s && decide ((kingT f r).getD s 0 < 2 ^ (f * r))) = true := by kernel_rfl
theorem bit_eq {a b : Bool} (h : (a == b) = true) : a = true ↔ b = true := by rw [eq_of_beq h]
/-- kinds that slide, with their directions -/
noncomputable def Dir (k d : Nat) : Prop := d < 8 ∧ ((k = 3 ∧ 4 ≤ d) ∨ (k = 4 ∧ d < 4) ∨ k = 5)
theorem slide_bit {f r k s occ t side : Nat} (hk : k = 3 ∨ k = 4 ∨ k = 5) : (pieceAtt f r side k s occ).testBit t = true ↔ ∃ d, Dir k d ∧ Sees f r d s occ t := by
  rcases hk with rfl | rfl | rfl
  · show (bishopAtt f r s occ).testBit t = true ↔ _
    rw [bishop_bit]
    exact ⟨fun ⟨d, h1, h2, h3⟩ => ⟨d, ⟨h2, .inl ⟨rfl, h1⟩⟩, h3⟩, fun ⟨d, h1, h3⟩ => ⟨d, by unfold Dir at h1; omega, h1.1, h3⟩⟩
  · show (rookAtt f r s occ).testBit t = true ↔ _
    rw [rook_bit]
    exact ⟨fun ⟨d, h1, h3⟩ => ⟨d, ⟨by omega, .inr (.inl ⟨rfl, h1⟩)⟩, h3⟩, fun ⟨d, h1, h3⟩ => ⟨d, by unfold Dir at h1; omega, h3⟩⟩
  · show (rookAtt f r s occ ||| bishopAtt f r s occ).testBit t = true ↔ _
    rw [Nat.testBit_or, Bool.or_eq_true, rook_bit, bishop_bit]
    constructor
    · rintro (⟨d, h1, h3⟩ | ⟨d, h1, h2, h3⟩)
      · exact ⟨d, ⟨by omega, .inr (.inr rfl)⟩, h3⟩
      · exact ⟨d, ⟨h2, .inr (.inr rfl)⟩, h3⟩
    · rintro ⟨d, h1, h3⟩
      by_cases h : d < 4
      · exact .inl ⟨d, h, h3⟩
      · exact .inr ⟨d, by omega, h1.1, h3⟩
theorem Dir.opp {k d : Nat} (h : Dir k d) : Dir k (opp d) := by
  obtain ⟨h1, h2, h3⟩ := opp_lt h.1
  unfold Dir at h ⊢
  omega
theorem kinds {k : Nat} (h1 : 1 ≤ k) (h2 : k ≤ 6) : (k = 1 ∨ k = 2 ∨ k = 6) ∨ (k = 3 ∨ k = 4 ∨ k = 5) := by omega
theorem sym1 {f r side k s t occ : Nat} (hz : Sz f r) (hs : s < f * r) (ht : t < 16) (hside : side < 2) (h1 : 1 ≤ k) (h2 : k ≤ 6) (h : (pieceAtt f r side k s occ).testBit t = true) : (pieceAtt f r (1 - side) k t occ).testBit s = true := by
  have q := List.all_eq_true.mp (allSq_ok tabs_chk hz hs) t (List.mem_range.mpr ht)
  simp only [Bool.and_eq_true] at q
  obtain ⟨⟨⟨q1, q2⟩, q3⟩, q4⟩ := q
  rcases kinds h1 h2 with (rfl | rfl | rfl) | hk
  · have : side = 0 ∨ side = 1 := by omega
    rcases this with rfl | rfl
    · exact (bit_eq q3).mp h
    · exact (bit_eq q4).mp h
  · exact (bit_eq q1).mp h
  · exact (bit_eq q2).mp h
  · obtain ⟨d, hd, hv⟩ := (slide_bit hk).mp h
    exact (slide_bit hk).mpr ⟨opp d, hd.opp, (hv.flip hz hs hd.1).2⟩
theorem sym {f r side k s t occ : Nat} (hz : Sz f r) (hs : s < f * r) (ht : t < f * r) (hside : side < 2) (h1 : 1 ≤ k) (h2 : k ≤ 6) : (pieceAtt f r side k s occ).testBit t = true ↔ (pieceAtt f r (1 - side) k t occ).testBit s = true := by
  have hle := hz.le
  refine ⟨sym1 hz hs (by omega) hside h1 h2, fun h => ?_⟩
  have := sym1 hz ht (by omega) (by omega) h1 h2 h
  rwa [show 1 - (1 - side) = side by omega] at this
theorem no_self {f r side k s occ : Nat} (hz : Sz f r) (hs : s < f * r) (hside : side < 2) (h1 : 1 ≤ k) (h2 : k ≤ 6) : (pieceAtt f r side k s occ).testBit s = false := by
  have q := allSq_ok self_chk hz hs
  simp only [Bool.and_eq_true, Bool.not_eq_true'] at q
  obtain ⟨⟨⟨⟨q1, q2⟩, q3⟩, q4⟩, _⟩ := q
  rcases kinds h1 h2 with (rfl | rfl | rfl) | hk
  · have : side = 0 ∨ side = 1 := by omega
    rcases this with rfl | rfl
    · exact q3
    · exact q4
  · exact q1
  · exact q2
  · rw [Bool.eq_false_iff]; intro h
    obtain ⟨d, hd, hv⟩ := (slide_bit hk).mp h
    exact hv.ne hz hs hd.1 rfl
theorem king_lt {f r k : Nat} (hz : Sz f r) (hk : k < f * r) : ((kingT f r).getD k 0).testBit k = false ∧ ∀ t, ((kingT f r).getD k 0).testBit t = true → t < f * r := by
  have q := allSq_ok self_chk hz hk
  simp only [Bool.and_eq_true, Bool.not_eq_true', decide_eq_true_iff] at q
  obtain ⟨⟨⟨⟨q1, q2⟩, q3⟩, q4⟩, q5⟩ := q
  refine ⟨q2, fun t ht => ?_⟩
  rcases Nat.lt_or_ge t (f * r) with h | h
  · exact h
  · have := Nat.testBit_lt_two_pow (Nat.lt_of_lt_of_le q5 (Nat.pow_le_pow_right (by decide) h))
    rw [this] at ht; cases ht
theorem occ_free {f r side k s t occ occ' : Nat} (h1 : 1 ≤ k) (h2 : k ≤ 6) (e : ∀ x, x ≠ t → occ.testBit x = false → occ'.testBit x = false) (h : (pieceAtt f r side k s occ).testBit t = true) : (pieceAtt f r side k s occ').testBit t = true := by
  rcases kinds h1 h2 with (rfl | rfl | rfl) | hk
  · exact h
  · exact h
  · exact h
  · obtain ⟨d, hd, hv⟩ := (slide_bit hk).mp h
    exact (slide_bit hk).mpr ⟨d, hd, hv.occ e⟩
theorem xray {f r side k s t x occ occ' : Nat} (h1 : 1 ≤ k) (h2 : k ≤ 6) (e : ∀ y, y ≠ x → occ'.testBit y = false → occ.testBit y = false) (h : (pieceAtt f r side k s occ').testBit t = true) : (pieceAtt f r side k s occ).testBit t = true ∨ (pieceAtt f r side k s occ).testBit x = true := by
  rcases kinds h1 h2 with (rfl | rfl | rfl) | hk
  · exact .inl h
  · exact .inl h
  · exact .inl h
  · obtain ⟨d, hd, hv⟩ := (slide_bit hk).mp h
    rcases hv.xray e with q | q
    · exact .inl ((slide_bit hk).mpr ⟨d, hd, q⟩)
    · exact .inr ((slide_bit hk).mpr ⟨d, hd, q⟩)
/-- a man of side hits t -/
noncomputable def Hits (f r : Nat) (B : Bd) (side occ t : Nat) : Prop := ∃ k s, 1 ≤ k ∧ k ≤ 6 ∧ (B.kd k &&& B.sd side).testBit s = true ∧ (pieceAtt f r side k s occ).testBit t = true
theorem BoardOk.at {f r : Nat} {B : Bd} (h : BoardOk f r B) {side k s : Nat} (hside : side < 2) (h1 : 1 ≤ k) (h2 : k ≤ 6) : (B.kd k &&& B.sd side).testBit s = true ↔ B.bo.getD s 0 = side * 8 + k := by
  rw [Nat.testBit_and, Bool.and_eq_true, h.kb k s h1 h2, h.sb side s hside, and7, shr3]
  have := h.man s
  unfold Man at this
  omega
theorem BoardOk.occ {f r : Nat} {B : Bd} (h : BoardOk f r B) (s : Nat) : B.occ.testBit s = true ↔ B.bo.getD s 0 ≠ 0 := by
  have h1 := h.sb 0 s (by decide)
  have h2 := h.sb 1 s (by decide)
  rw [Bd.occ, Nat.testBit_or, Bool.or_eq_true, show B.s0 = B.sd 0 from rfl, show B.s1 = B.sd 1 from rfl, h1, h2, shr3]
  have := h.man s
  unfold Man at this
  omega
theorem isAtk_back {f r : Nat} {B : Bd} {side t occ : Nat} (hside : side < 2) : isAtk f r B t side occ = true ↔ ∃ k s, 1 ≤ k ∧ k ≤ 6 ∧ (B.kd k &&& B.sd side).testBit s = true ∧ (pieceAtt f r (1 - side) k t occ).testBit s = true := by
  unfold isAtk stepAtk pawnAtk straightB slantB
  simp only [Bool.or_eq_true, any_bit, Nat.testBit_and, Nat.testBit_or, Bool.and_eq_true]
  constructor
  · rintro (⟨s, ⟨⟨h1, h2⟩, h3⟩ | ⟨⟨h1, h2⟩ | ⟨h1, h2⟩, h3⟩⟩ | ⟨s, h1, h2 | h2, h3⟩ | ⟨s, h1, h2 | h2, h3⟩)
    · exact ⟨1, s, by decide, by decide, ⟨h2, h3⟩, h1⟩
    · exact ⟨2, s, by decide, by decide, ⟨h2, h3⟩, h1⟩
    · exact ⟨6, s, by decide, by decide, ⟨h2, h3⟩, h1⟩
    · exact ⟨4, s, by decide, by decide, ⟨h2, h3⟩, h1⟩
    · exact ⟨5, s, by decide, by decide, ⟨h2, h3⟩, by show (rookAtt f r t occ ||| bishopAtt f r t occ).testBit s = true; rw [Nat.testBit_or, h1, Bool.true_or]⟩
    · exact ⟨3, s, by decide, by decide, ⟨h2, h3⟩, h1⟩
    · exact ⟨5, s, by decide, by decide, ⟨h2, h3⟩, by show (rookAtt f r t occ ||| bishopAtt f r t occ).testBit s = true; rw [Nat.testBit_or, h1, Bool.or_true]⟩
  · rintro ⟨k, s, h1, h2, ⟨h3, h4⟩, h5⟩
    have : k = 1 ∨ k = 2 ∨ k = 3 ∨ k = 4 ∨ k = 5 ∨ k = 6 := by omega
    rcases this with rfl | rfl | rfl | rfl | rfl | rfl
    · exact .inl ⟨s, .inl ⟨⟨h5, h3⟩, h4⟩⟩
    · exact .inl ⟨s, .inr ⟨.inl ⟨h5, h3⟩, h4⟩⟩
    · exact .inr (.inr ⟨s, h5, .inl h3, h4⟩)
    · exact .inr (.inl ⟨s, h5, .inl h3, h4⟩)
    · have h6 : (rookAtt f r t occ ||| bishopAtt f r t occ).testBit s = true := h5
      rw [Nat.testBit_or, Bool.or_eq_true] at h6
      rcases h6 with h6 | h6
      · exact .inr (.inl ⟨s, h6, .inr h3, h4⟩)
      · exact .inr (.inr ⟨s, h6, .inr h3, h4⟩)
    · exact .inl ⟨s, .inr ⟨.inr ⟨h5, h3⟩, h4⟩⟩
theorem isAtk_hits {f r : Nat} {B : Bd} (h : BoardOk f r B) {side t occ : Nat} (hside : side < 2) (ht : t < f * r) : isAtk f r B t side occ = true ↔ Hits f r B side occ t := by
  rw [isAtk_back hside]
  constructor
  · rintro ⟨k, s, h1, h2, h3, h4⟩
    have hs : s < f * r := h.inb (by rw [(h.at hside h1 h2).mp h3]; omega)
    exact ⟨k, s, h1, h2, h3, (sym h.sz hs ht hside h1 h2).mpr h4⟩
  · rintro ⟨k, s, h1, h2, h3, h4⟩
    have hs : s < f * r := h.inb (by rw [(h.at hside h1 h2).mp h3]; omega)
    exact ⟨k, s, h1, h2, h3, (sym h.sz hs ht hside h1 h2).mp h4⟩
theorem atkTo_isAtk {f r : Nat} {B : Bd} (h : BoardOk f r B) {side t occ : Nat} (hside : side < 2) : ((atkTo f r B t occ &&& B.sd side) != 0) = isAtk f r B t side occ := by
  have dj : ∀ s i j, i < 2 → j < 2 → (B.sd i).testBit s = true → (B.sd j).testBit s = true → i = j := fun s i j hi hj a b => ((h.sb i s hi).mp a).2.symm.trans ((h.sb j s hj).mp b).2
  have st : ∀ s i, (stepAtk f r B t i).testBit s = true → (B.sd i).testBit s = true := fun s i a => by
    unfold stepAtk pawnAtk at a
    simp only [Nat.testBit_and, Nat.testBit_or, Bool.or_eq_true, Bool.and_eq_true] at a
    rcases a with a | a
    · exact a.2
    · exact a.2
  rw [Bool.eq_iff_iff]
  unfold isAtk atkTo
  rw [Bool.or_eq_true, Bool.or_eq_true, any_bit, any_bit, any_bit, any_bit]
  unfold lineAtk
  simp only [Nat.testBit_and, Nat.testBit_or, Bool.or_eq_true, Bool.and_eq_true]
  constructor
  · rintro ⟨s, (h1 | h1) | (⟨h1, h2⟩ | ⟨h1, h2⟩), h3⟩
    · rcases h1 with h1
      have := dj s 0 side (by decide) hside (st s 0 h1) h3
      subst this
      exact .inl ⟨s, h1⟩
    · have := dj s 1 side (by decide) hside (st s 1 h1) h3
      subst this
      exact .inl ⟨s, h1⟩
    · exact .inr (.inl ⟨s, h1, h2, h3⟩)
    · exact .inr (.inr ⟨s, h1, h2, h3⟩)
  · rintro (⟨s, h1⟩ | ⟨s, h1, h2, h3⟩ | ⟨s, h1, h2, h3⟩)
    · refine ⟨s, .inl ?_, st s side h1⟩
      have : side = 0 ∨ side = 1 := by omega
      rcases this with rfl | rfl
      · exact .inl h1
      · exact .inr h1
    · exact ⟨s, .inr (.inl ⟨h1, h2⟩), h3⟩
    · exact ⟨s, .inr (.inr ⟨h1, h2⟩), h3⟩
/-- a king's step is safe if no man of the foe hits its goal through him -/
theorem safe_hits {f r : Nat} {B : Bd} (h : BoardOk f r B) {k t : Nat} (hk : King1 B B.side k) (ht : t < f * r) (hn : t ≠ k) :
    isAtk f r (moveB B k t) t (1 - B.side) (moveB B k t).occ = true ↔ Hits f r B (1 - B.side) (B.occ ^^^ 1 <<< k) t := by
  obtain ⟨m1, m2, m3, m4⟩ := move_ok h hk ht hn
  have hside := h.side
  have hf : 1 - B.side < 2 := by omega
  have ek := (hk k).mpr rfl
  rw [isAtk_hits m1 hf ht]
  have ho : ∀ x, x ≠ t → ((moveB B k t).occ.testBit x = (B.occ ^^^ 1 <<< k).testBit x) := fun x hx => by
    have e1 := m1.occ x
    have e2 := h.occ x
    rw [m4 x, if_neg (Ne.symm hx)] at e1
    rw [Bool.eq_iff_iff, e1, Nat.testBit_xor, tb1]
    by_cases e : k = x
    · subst e
      have : B.occ.testBit k = true := e2.mpr (by omega)
      simp [this]
    · simp only [e, if_false, decide_false, Bool.xor_false]
      exact e2.symm
  constructor
  · rintro ⟨kd, s, h1, h2, h3, h4⟩
    have h3' := (m1.at hf h1 h2).mp h3
    rw [m4 s] at h3'
    have hst : t ≠ s := fun e => by rw [if_pos e] at h3'; omega
    have hks : k ≠ s := fun e => by rw [if_neg hst, if_pos e] at h3'; omega
    rw [if_neg hst, if_neg hks] at h3'
    exact ⟨kd, s, h1, h2, (h.at hf h1 h2).mpr h3', occ_free h1 h2 (fun x hx q => by rw [← ho x hx]; exact q) h4⟩
  · rintro ⟨kd, s, h1, h2, h3, h4⟩
    have h3' := (h.at hf h1 h2).mp h3
    have hks : k ≠ s := fun e => by subst e; omega
    have hst : t ≠ s := fun e => by
      subst e
      rw [no_self h.sz ht hf h1 h2] at h4
      cases h4
    refine ⟨kd, s, h1, h2, (m1.at hf h1 h2).mpr ?_, occ_free h1 h2 (fun x hx q => by rw [ho x hx]; exact q) h4⟩
    rw [m4 s, if_neg hst, if_neg hks]; exact h3'
/-- no check: the king hides nothing -/
theorem no_check {f r : Nat} {B : Bd} {k t side : Nat} (ho : B.occ.testBit k = true) (hc : ¬ Hits f r B side B.occ k) : Hits f r B side (B.occ ^^^ 1 <<< k) t ↔ Hits f r B side B.occ t := by
  constructor
  · rintro ⟨kd, s, h1, h2, h3, h4⟩
    have e : ∀ y, y ≠ k → (B.occ ^^^ 1 <<< k).testBit y = false → B.occ.testBit y = false := fun y hy q => by
      rw [Nat.testBit_xor, tb1, decide_eq_false (Ne.symm hy), Bool.xor_false] at q
      exact q
    rcases xray h1 h2 e h4 with q | q
    · exact ⟨kd, s, h1, h2, h3, q⟩
    · exact absurd ⟨kd, s, h1, h2, h3, q⟩ hc
  · rintro ⟨kd, s, h1, h2, h3, h4⟩
    refine ⟨kd, s, h1, h2, h3, occ_free h1 h2 (fun x hx q => ?_) h4⟩
    rw [Nat.testBit_xor, tb1]
    by_cases e : k = x
    · subst e; rw [ho] at q; cases q
    · rw [q, decide_eq_false e]; rfl
end Mine

namespace Mine
theorem rv_range (n : Nat) : rangeVals 0 (n : Int) 1 = intsA (List.range n) := by
  unfold rangeVals intsA
  have : (Builtin.Range.rangeSize 0 (n : Int) 1).toNat = n := by
    have := rv_len n
    unfold rangeVals at this
    rwa [List.length_map, List.length_range] at this
  rw [this]
  refine List.map_congr_left fun i _ => ?_
  rw [Int.zero_add, Int.mul_one]
theorem bitq (c s : Nat) : (((c >>> s &&& 1 : Nat) : Int) == 1) = c.testBit s := by
  rw [show (((c >>> s &&& 1 : Nat) : Int) == 1) = decide (c >>> s &&& 1 = 1) from beq_nat _ 1, Bool.eq_iff_iff, decide_eq_true_iff]
  exact bit_test c s
theorem LoopI.ext {H H' : Hp} {f r : Nat} {B : Bd} {ns : List Int} {c k k' : Nat} (I : LoopI H f r B ns c k k') (e : Ext H H') : LoopI H' f r B ns c k k' :=
  ⟨I.G.ext e, I.Z.ext e, I.P.ext e, I.K, I.k, I.k', ⟨e.get I.S.1, e.get I.S.2.1, I.S.2.2⟩, by have := e.len; have := I.l; omega⟩
theorem LoopI.pg {H : Hp} {f r : Nat} {B : Bd} {ns : List Int} {c k k' : Nat} (I : LoopI H f r B ns c k k') : PosG H f r pa0 B := ⟨I.G, I.P, I.K.bd⟩
theorem bne_self' (b : Bool) : (b != b) = false := bne_self_eq_false b
noncomputable def lw1 : List S := [.ife (.cmp .NotEq (.call 34 [(.var 2), (.var 6), (.var 3), (.var 4)]) (.cmp .Eq (.bin .BitAnd (.bin .RShift (.var 5) (.var 6)) (.const (.int 1))) (.const (.int 1)))) [.ret (.const (.bool false))] []]
theorem lw1_loop {f r : Nat} {B : Bd} {ns : List Int} {c0 k k' c foe : Nat} {K : Cont} {H : Hp} (I : LoopI H f r B ns c0 k k') (hfoe : foe < 2) (hc : Cov f r B foe B.occ c) : ∀ (l : List Nat) (x : AV), (∀ s ∈ l, s < f * r) →
    (∀ x, K .next [.undef, .ref 1, .ref 57, .int foe, .int (B.occ : Nat), .int c, x, .undef, .undef, .undef, .undef, .undef] H) →
    wFor (fun _ => True) (wSs (Oo 9) lw1) 6 (intsA l) [.undef, .ref 1, .ref 57, .int foe, .int (B.occ : Nat), .int c, x, .undef, .undef, .undef, .undef, .undef] H K
  | [], x, hs, q => for_nil trivial (q x)
  | s :: l, x, hs, q => by
    have hs0 := hs s (.head _)
    refine for_cons trivial ?_
    unfold lw1
    refine st_ife ?_
    simp only [wE, wEs, wT, wVar, lget, lset, wBin, binI, cmpA, cmpI, cmpB, truthA, wGetA, getF, wGetI, wSetA, putF, wSetI, wApp, rangeA, List.append_eq, List.cons_append, List.nil_append, List.length_cons, List.length_nil, List.replicate, ↓reduceIte, Nat.reduceEqDiff, if_true, if_false, List.getElem?_cons_zero, List.getElem?_cons_succ, Int.toNat_zero, Int.toNat_one, Nat.reduceAdd, Nat.reduceSub, Int.toNat_natCast, Int.reduceToNat, band_nat, bor_nat, bxor_nat, bandn_nat, band_7, band_15, band_1, bor_0, shr_1, shr_2, shr_3, shr_4, shr_8, shr_16, shr_32, shl_1, shr_v]
    refine ⟨by decide, .inr ⟨f, r, pa0, B, s, foe, B.occ, rfl, I.pg, hs0, hfoe, ?_⟩⟩
    simp only [wE, wEs, wT, wVar, lget, lset, wBin, binI, cmpA, cmpI, cmpB, truthA, wGetA, getF, wGetI, wSetA, putF, wSetI, wApp, rangeA, List.append_eq, List.cons_append, List.nil_append, List.length_cons, List.length_nil, List.replicate, ↓reduceIte, Nat.reduceEqDiff, if_true, if_false, List.getElem?_cons_zero, List.getElem?_cons_succ, Int.toNat_zero, Int.toNat_one, Nat.reduceAdd, Nat.reduceSub, Int.toNat_natCast, Int.reduceToNat, band_nat, bor_nat, bxor_nat, bandn_nat, band_7, band_15, band_1, bor_0, shr_1, shr_2, shr_3, shr_4, shr_8, shr_16, shr_32, shl_1, shr_v, bitq]
    refine ⟨by omega, ?_⟩
    have e : isAtk f r B s foe B.occ = c.testBit s := by
      rw [Bool.eq_iff_iff, isAtk_hits I.K hfoe hs0, hc s]; rfl
    rw [e, bne_self']
    exact st_nil (nx_next (st_nil (fx_next (lw1_loop I hfoe hc l _ (fun s h => hs s (.tail _ h)) q))))
noncomputable def lw2 : List S := [.assign 11 (.cmp .Eq (.bin .BitAnd (.bin .RShift (.var 10) (.var 6)) (.const (.int 1))) (.const (.int 1))), .ife (.cmp .NotEq (.and (.var 11) (.call 46 [(.var 2), (.var 7), (.var 6)])) (.cmp .Eq (.bin .BitAnd (.bin .RShift (.var 9) (.var 6)) (.const (.int 1))) (.const (.int 1)))) [.ret (.const (.bool false))] []]
theorem lw2_loop {f r : Nat} {B : Bd} {ns : List Int} {c0 k k' c2 : Nat} {K : Cont} {a3 a4 a5 a8 : AV} (hc : Cov f r B (1 - B.side) (B.occ ^^^ 1 <<< k) c2) : ∀ (l : List Nat) (x y : AV) (H : Hp), (∀ s ∈ l, s < f * r) → LoopI H f r B ns c0 k k' →
    (∀ x y H, K .next [.undef, .ref 1, .ref 57, a3, a4, a5, x, .int k, a8, .int (andn (andn ((kingT f r).getD k 0) (B.sd B.side)) c2 : Nat), .int (andn ((kingT f r).getD k 0) (B.sd B.side) : Nat), y] H) →
    wFor (fun _ => True) (wSs (Oo 9) lw2) 6 (intsA l) [.undef, .ref 1, .ref 57, a3, a4, a5, x, .int k, a8, .int (andn (andn ((kingT f r).getD k 0) (B.sd B.side)) c2 : Nat), .int (andn ((kingT f r).getD k 0) (B.sd B.side) : Nat), y] H K
  | [], x, y, H, hs, I, q => for_nil trivial (q x y H)
  | t :: l, x, y, H, hs, I, q => by
    have ht := hs t (.head _)
    have hl := fun s (h : s ∈ l) => hs s (.tail _ h)
    refine for_cons trivial ?_
    unfold lw2
    refine st_assign ?_
    simp only [wE, wEs, wT, wVar, lget, lset, wBin, binI, cmpA, cmpI, cmpB, truthA, wGetA, getF, wGetI, wSetA, putF, wSetI, wApp, rangeA, List.append_eq, List.cons_append, List.nil_append, List.length_cons, List.length_nil, List.replicate, ↓reduceIte, Nat.reduceEqDiff, if_true, if_false, List.getElem?_cons_zero, List.getElem?_cons_succ, Int.toNat_zero, Int.toNat_one, Nat.reduceAdd, Nat.reduceSub, Int.toNat_natCast, Int.reduceToNat, band_nat, bor_nat, bxor_nat, bandn_nat, band_7, band_15, band_1, bor_0, shr_1, shr_2, shr_3, shr_4, shr_8, shr_16, shr_32, shl_1, shr_v, bitq]
    refine ⟨by omega, st_ife ?_⟩
    simp only [wE, wEs, wT, wVar, lget, lset, wBin, binI, cmpA, cmpI, cmpB, truthA, wGetA, getF, wGetI, wSetA, putF, wSetI, wApp, rangeA, List.append_eq, List.cons_append, List.nil_append, List.length_cons, List.length_nil, List.replicate, ↓reduceIte, Nat.reduceEqDiff, if_true, if_false, List.getElem?_cons_zero, List.getElem?_cons_succ, Int.toNat_zero, Int.toNat_one, Nat.reduceAdd, Nat.reduceSub, Int.toNat_natCast, Int.reduceToNat, band_nat, bor_nat, bxor_nat, bandn_nat, band_7, band_15, band_1, bor_0, shr_1, shr_2, shr_3, shr_4, shr_8, shr_16, shr_32, shl_1, shr_v]
    cases e : (andn ((kingT f r).getD k 0) (B.sd B.side)).testBit t with
    | false =>
      simp only [wE, wEs, wT, wVar, lget, lset, wBin, binI, cmpA, cmpI, cmpB, truthA, wGetA, getF, wGetI, wSetA, putF, wSetI, wApp, rangeA, List.append_eq, List.cons_append, List.nil_append, List.length_cons, List.length_nil, List.replicate, ↓reduceIte, Nat.reduceEqDiff, if_true, if_false, List.getElem?_cons_zero, List.getElem?_cons_succ, Int.toNat_zero, Int.toNat_one, Nat.reduceAdd, Nat.reduceSub, Int.toNat_natCast, Int.reduceToNat, band_nat, bor_nat, bxor_nat, bandn_nat, band_7, band_15, band_1, bor_0, shr_1, shr_2, shr_3, shr_4, shr_8, shr_16, shr_32, shl_1, shr_v, bitq]
      refine ⟨by omega, ?_⟩
      rw [testBit_andn, e, Bool.false_and, bne_self']
      exact st_nil (nx_next (st_nil (fx_next (lw2_loop hc l _ _ H hl I q))))
    | true =>
      simp only [wE, wEs, wT, wVar, lget, lset, wBin, binI, cmpA, cmpI, cmpB, truthA, wGetA, getF, wGetI, wSetA, putF, wSetI, wApp, rangeA, List.append_eq, List.cons_append, List.nil_append, List.length_cons, List.length_nil, List.replicate, ↓reduceIte, Nat.reduceEqDiff, if_true, if_false, List.getElem?_cons_zero, List.getElem?_cons_succ, Int.toNat_zero, Int.toNat_one, Nat.reduceAdd, Nat.reduceSub, Int.toNat_natCast, Int.reduceToNat, band_nat, bor_nat, bxor_nat, bandn_nat, band_7, band_15, band_1, bor_0, shr_1, shr_2, shr_3, shr_4, shr_8, shr_16, shr_32, shl_1, shr_v]
      have e' := e
      rw [testBit_andn, Bool.and_eq_true] at e'
      have hk := I.k.lt I.K
      have hn : t ≠ k := fun z => by
        rw [z, (king_lt I.K.sz hk).1] at e'
        exact absurd e'.1 (by decide)
      refine ⟨by decide, .inr ⟨f, r, pa0, B, k, t, rfl, I.G, I.Z, I.P, I.K, I.k, ht, hn, I.l, fun H' x => ?_⟩⟩
      simp only [wE, wEs, wT, wVar, lget, lset, wBin, binI, cmpA, cmpI, cmpB, truthA, wGetA, getF, wGetI, wSetA, putF, wSetI, wApp, rangeA, List.append_eq, List.cons_append, List.nil_append, List.length_cons, List.length_nil, List.replicate, ↓reduceIte, Nat.reduceEqDiff, if_true, if_false, List.getElem?_cons_zero, List.getElem?_cons_succ, Int.toNat_zero, Int.toNat_one, Nat.reduceAdd, Nat.reduceSub, Int.toNat_natCast, Int.reduceToNat, band_nat, bor_nat, bxor_nat, bandn_nat, band_7, band_15, band_1, bor_0, shr_1, shr_2, shr_3, shr_4, shr_8, shr_16, shr_32, shl_1, shr_v, bitq]
      refine ⟨by omega, ?_⟩
      have e2 : isAtk f r (moveB B k t) t (1 - B.side) (moveB B k t).occ = c2.testBit t := by
        rw [Bool.eq_iff_iff, safe_hits I.K I.k ht hn, hc t]; rfl
      rw [testBit_andn, e, Bool.true_and, e2, bne_self']
      exact st_nil (nx_next (st_nil (fx_next (lw2_loop hc l _ _ H' hl (I.ext x) q))))
theorem law_walk {ns : List Int} (hl : ns.length ≤ 100) {Q : Cont} (q : ∀ l H', Q (.ret (.bool true)) l H') :
    wSs (Oo 9) b_law [.undef, .ref 1, .undef, .undef, .undef, .undef, .undef, .undef, .undef, .undef, .undef, .undef] [.list (ns.map .int), .list [.ref 0, .int 0]] Q := by
  unfold b_law
  refine st_assign ?_
  simp only [wE, wEs, wT, wVar, lget, lset, wBin, binI, cmpA, cmpI, cmpB, truthA, wGetA, getF, wGetI, wSetA, putF, wSetI, wApp, rangeA, List.append_eq, List.cons_append, List.nil_append, List.length_cons, List.length_nil, List.replicate, ↓reduceIte, Nat.reduceEqDiff, if_true, if_false, List.getElem?_cons_zero, List.getElem?_cons_succ, Int.toNat_zero, Int.toNat_one, Nat.reduceAdd, Nat.reduceSub, Int.toNat_natCast, Int.reduceToNat, band_nat, bor_nat, bxor_nat, bandn_nat, band_7, band_15, band_1, bor_0, shr_1, shr_2, shr_3, shr_4, shr_8, shr_16, shr_32, shl_1, shr_v]
  refine ⟨by decide, .inr ⟨ns, rfl, rfl, hl, fun f r B c0 k k' H G Z P K hk hk' S hc0 hH => ?_⟩⟩
  have I : LoopI H f r B ns c0 k k' := ⟨G, Z, P, K, hk, hk', S, hH⟩
  clear G Z P S hH
  have hle := K.sz.le
  have hside := K.side
  have hfoe : 1 - B.side < 2 := by omega
  have hkn := hk.lt K
  have hka := hk.at K hside
  have i7 : ∀ {H : Hp}, LoopI H f r B ns c0 k k' → H[57]? = some (.inst 56) := fun I => I.P.i
  have d7 : ∀ {H : Hp}, LoopI H f r B ns c0 k k' → H[56]? = some (.dict (posD 56 59 61 62 63 B.side)) := fun I => I.P.d
  have s7 : ∀ {H : Hp}, LoopI H f r B ns c0 k k' → H[62]? = some (.list (intsA [B.s0, B.s1])) := fun I => I.P.si
  refine st_assign2 ?_
  simp only [wE, wEs, wT, wVar, lget, lset, wBin, binI, cmpA, cmpI, cmpB, truthA, wGetA, getF, wGetI, wSetA, putF, wSetI, wApp, rangeA, List.append_eq, List.cons_append, List.nil_append, List.length_cons, List.length_nil, List.replicate, ↓reduceIte, Nat.reduceEqDiff, if_true, if_false, List.getElem?_cons_zero, List.getElem?_cons_succ, Int.toNat_zero, Int.toNat_one, Nat.reduceAdd, Nat.reduceSub, Int.toNat_natCast, Int.reduceToNat, band_nat, bor_nat, bxor_nat, bandn_nat, band_7, band_15, band_1, bor_0, shr_1, shr_2, shr_3, shr_4, shr_8, shr_16, shr_32, shl_1, shr_v, i7 I, d7 I, posD, sub_side hside]
  refine ⟨by decide, .inr ⟨pa0, B, rfl, I.P, st_assign ?_⟩⟩
  simp only [wE, wEs, wT, wVar, lget, lset, wBin, binI, cmpA, cmpI, cmpB, truthA, wGetA, getF, wGetI, wSetA, putF, wSetI, wApp, rangeA, List.append_eq, List.cons_append, List.nil_append, List.length_cons, List.length_nil, List.replicate, ↓reduceIte, Nat.reduceEqDiff, if_true, if_false, List.getElem?_cons_zero, List.getElem?_cons_succ, Int.toNat_zero, Int.toNat_one, Nat.reduceAdd, Nat.reduceSub, Int.toNat_natCast, Int.reduceToNat, band_nat, bor_nat, bxor_nat, bandn_nat, band_7, band_15, band_1, bor_0, shr_1, shr_2, shr_3, shr_4, shr_8, shr_16, shr_32, shl_1, shr_v]
  refine ⟨by decide, .inr ⟨f, r, pa0, B, 1 - B.side, rfl, I.pg, hfoe, fun c H1 hc x1 => ?_⟩⟩
  have I1 := I.ext x1
  clear I x1
  have hat : ∀ t, t < f * r → isAtk f r B t (1 - B.side) B.occ = c.testBit t := fun t ht => by
    rw [Bool.eq_iff_iff, isAtk_hits K hfoe ht, hc t]; rfl
  refine st_forR ?_
  simp only [wE, wEs, wT, wVar, lget, lset, wBin, binI, cmpA, cmpI, cmpB, truthA, wGetA, getF, wGetI, wSetA, putF, wSetI, wApp, rangeA, List.append_eq, List.cons_append, List.nil_append, List.length_cons, List.length_nil, List.replicate, ↓reduceIte, Nat.reduceEqDiff, if_true, if_false, List.getElem?_cons_zero, List.getElem?_cons_succ, Int.toNat_zero, Int.toNat_one, Nat.reduceAdd, Nat.reduceSub, Int.toNat_natCast, Int.reduceToNat, band_nat, bor_nat, bxor_nat, bandn_nat, band_7, band_15, band_1, bor_0, shr_1, shr_2, shr_3, shr_4, shr_8, shr_16, shr_32, shl_1, shr_v, i7 I1, d7 I1, posD, I1.G.i, I1.G.d, geoD, rv_range]
  refine ⟨⟨by decide, by omega, .inl rfl⟩, ?_⟩
  refine lw1_loop I1 hfoe hc _ _ (fun s hs => List.mem_range.mp hs) fun x => nx_next (st_assign ?_)
  simp only [wE, wEs, wT, wVar, lget, lset, wBin, binI, cmpA, cmpI, cmpB, truthA, wGetA, getF, wGetI, wSetA, putF, wSetI, wApp, rangeA, List.append_eq, List.cons_append, List.nil_append, List.length_cons, List.length_nil, List.replicate, ↓reduceIte, Nat.reduceEqDiff, if_true, if_false, List.getElem?_cons_zero, List.getElem?_cons_succ, Int.toNat_zero, Int.toNat_one, Nat.reduceAdd, Nat.reduceSub, Int.toNat_natCast, Int.reduceToNat, band_nat, bor_nat, bxor_nat, bandn_nat, band_7, band_15, band_1, bor_0, shr_1, shr_2, shr_3, shr_4, shr_8, shr_16, shr_32, shl_1, shr_v, i7 I1, d7 I1, posD, I1.G.i, I1.G.d, geoD]
  refine ⟨by decide, .inr ⟨ns, c0, f * r, rfl, I1.S, by omega, by omega, fun s H2 hs S2 g2 l2 => ?_⟩⟩
  have I2 := I1.tally S2 g2 l2
  clear I1 S2 g2 l2
  have i8 : ∀ {H : Hp}, LoopI H f r B ns (c0 + 1) k k' → H[57]? = some (.inst 56) := fun I => I.P.i
  have d8 : ∀ {H : Hp}, LoopI H f r B ns (c0 + 1) k k' → H[56]? = some (.dict (posD 56 59 61 62 63 B.side)) := fun I => I.P.d
  have s8 : ∀ {H : Hp}, LoopI H f r B ns (c0 + 1) k k' → H[62]? = some (.list (intsA [B.s0, B.s1])) := fun I => I.P.si
  have e2 := sd_get (B := B) hfoe
  have e3 := sd_get (B := B) hside
  refine st_ife ?_
  simp only [wE, wEs, wT, wVar, lget, lset, wBin, binI, cmpA, cmpI, cmpB, truthA, wGetA, getF, wGetI, wSetA, putF, wSetI, wApp, rangeA, List.append_eq, List.cons_append, List.nil_append, List.length_cons, List.length_nil, List.replicate, ↓reduceIte, Nat.reduceEqDiff, if_true, if_false, List.getElem?_cons_zero, List.getElem?_cons_succ, Int.toNat_zero, Int.toNat_one, Nat.reduceAdd, Nat.reduceSub, Int.toNat_natCast, Int.reduceToNat, band_nat, bor_nat, bxor_nat, bandn_nat, band_7, band_15, band_1, bor_0, shr_1, shr_2, shr_3, shr_4, shr_8, shr_16, shr_32, shl_1, shr_v]
  refine ⟨by decide, .inr ⟨f, r, pa0, B, s, B.occ, rfl, I2.pg, hs, ?_⟩⟩
  simp only [wE, wEs, wT, wVar, lget, lset, wBin, binI, cmpA, cmpI, cmpB, truthA, wGetA, getF, wGetI, wSetA, putF, wSetI, wApp, rangeA, List.append_eq, List.cons_append, List.nil_append, List.length_cons, List.length_nil, List.replicate, ↓reduceIte, Nat.reduceEqDiff, if_true, if_false, List.getElem?_cons_zero, List.getElem?_cons_succ, Int.toNat_zero, Int.toNat_one, Nat.reduceAdd, Nat.reduceSub, Int.toNat_natCast, Int.reduceToNat, band_nat, bor_nat, bxor_nat, bandn_nat, band_7, band_15, band_1, bor_0, shr_1, shr_2, shr_3, shr_4, shr_8, shr_16, shr_32, shl_1, shr_v, i8 I2, d8 I2, s8 I2, posD, e2, nez, bitq]
  refine ⟨by omega, by omega, ?_⟩
  rw [atkTo_isAtk K hfoe, hat s hs, bne_self']
  refine st_nil (nx_next (st_assign ?_))
  simp only [wE, wEs, wT, wVar, lget, lset, wBin, binI, cmpA, cmpI, cmpB, truthA, wGetA, getF, wGetI, wSetA, putF, wSetI, wApp, rangeA, List.append_eq, List.cons_append, List.nil_append, List.length_cons, List.length_nil, List.replicate, ↓reduceIte, Nat.reduceEqDiff, if_true, if_false, List.getElem?_cons_zero, List.getElem?_cons_succ, Int.toNat_zero, Int.toNat_one, Nat.reduceAdd, Nat.reduceSub, Int.toNat_natCast, Int.reduceToNat, band_nat, bor_nat, bxor_nat, bandn_nat, band_7, band_15, band_1, bor_0, shr_1, shr_2, shr_3, shr_4, shr_8, shr_16, shr_32, shl_1, shr_v, i8 I2, d8 I2, posD]
  refine ⟨by decide, .inr ⟨pa0, B, B.side, k, rfl, I2.P, K.kl, hside, by omega, hka.2, st_assign ?_⟩⟩
  simp only [wE, wEs, wT, wVar, lget, lset, wBin, binI, cmpA, cmpI, cmpB, truthA, wGetA, getF, wGetI, wSetA, putF, wSetI, wApp, rangeA, List.append_eq, List.cons_append, List.nil_append, List.length_cons, List.length_nil, List.replicate, ↓reduceIte, Nat.reduceEqDiff, if_true, if_false, List.getElem?_cons_zero, List.getElem?_cons_succ, Int.toNat_zero, Int.toNat_one, Nat.reduceAdd, Nat.reduceSub, Int.toNat_natCast, Int.reduceToNat, band_nat, bor_nat, bxor_nat, bandn_nat, band_7, band_15, band_1, bor_0, shr_1, shr_2, shr_3, shr_4, shr_8, shr_16, shr_32, shl_1, shr_v]
  refine ⟨by decide, .inr ⟨f, r, pa0, B, k, rfl, I2.pg, hka, ?_⟩⟩
  rw [hat k hkn]
  refine st_ife ?_
  simp only [wE, wEs, wT, wVar, lget, lset, wBin, binI, cmpA, cmpI, cmpB, truthA, wGetA, getF, wGetI, wSetA, putF, wSetI, wApp, rangeA, List.append_eq, List.cons_append, List.nil_append, List.length_cons, List.length_nil, List.replicate, ↓reduceIte, Nat.reduceEqDiff, if_true, if_false, List.getElem?_cons_zero, List.getElem?_cons_succ, Int.toNat_zero, Int.toNat_one, Nat.reduceAdd, Nat.reduceSub, Int.toNat_natCast, Int.reduceToNat, band_nat, bor_nat, bxor_nat, bandn_nat, band_7, band_15, band_1, bor_0, shr_1, shr_2, shr_3, shr_4, shr_8, shr_16, shr_32, shl_1, shr_v, bitq]
  refine ⟨by omega, ?_⟩
  rw [bne_self']
  simp only [wE, wEs, wT, wVar, lget, lset, wBin, binI, cmpA, cmpI, cmpB, truthA, wGetA, getF, wGetI, wSetA, putF, wSetI, wApp, rangeA, List.append_eq, List.cons_append, List.nil_append, List.length_cons, List.length_nil, List.replicate, ↓reduceIte, Nat.reduceEqDiff, if_true, if_false, List.getElem?_cons_zero, List.getElem?_cons_succ, Int.toNat_zero, Int.toNat_one, Nat.reduceAdd, Nat.reduceSub, Int.toNat_natCast, Int.reduceToNat, band_nat, bor_nat, bxor_nat, bandn_nat, band_7, band_15, band_1, bor_0, shr_1, shr_2, shr_3, shr_4, shr_8, shr_16, shr_32, shl_1, shr_v]
  refine ⟨by decide, .inr ⟨f, r, pa0, B, k, rfl, I2.pg, hka, ?_⟩⟩
  simp only [wE, wEs, wT, wVar, lget, lset, wBin, binI, cmpA, cmpI, cmpB, truthA, wGetA, getF, wGetI, wSetA, putF, wSetI, wApp, rangeA, List.append_eq, List.cons_append, List.nil_append, List.length_cons, List.length_nil, List.replicate, ↓reduceIte, Nat.reduceEqDiff, if_true, if_false, List.getElem?_cons_zero, List.getElem?_cons_succ, Int.toNat_zero, Int.toNat_one, Nat.reduceAdd, Nat.reduceSub, Int.toNat_natCast, Int.reduceToNat, band_nat, bor_nat, bxor_nat, bandn_nat, band_7, band_15, band_1, bor_0, shr_1, shr_2, shr_3, shr_4, shr_8, shr_16, shr_32, shl_1, shr_v, nez]
  rw [atkTo_isAtk K hfoe, hat k hkn, bne_self']
  refine st_nil (nx_next (st_assign ?_))
  simp only [wE, wEs, wT, wVar, lget, lset, wBin, binI, cmpA, cmpI, cmpB, truthA, wGetA, getF, wGetI, wSetA, putF, wSetI, wApp, rangeA, List.append_eq, List.cons_append, List.nil_append, List.length_cons, List.length_nil, List.replicate, ↓reduceIte, Nat.reduceEqDiff, if_true, if_false, List.getElem?_cons_zero, List.getElem?_cons_succ, Int.toNat_zero, Int.toNat_one, Nat.reduceAdd, Nat.reduceSub, Int.toNat_natCast, Int.reduceToNat, band_nat, bor_nat, bxor_nat, bandn_nat, band_7, band_15, band_1, bor_0, shr_1, shr_2, shr_3, shr_4, shr_8, shr_16, shr_32, shl_1, shr_v]
  refine ⟨by decide, .inr ⟨f, r, pa0, B, k, rfl, I2.pg, hka, fun c2 H3 hc2 x3 => ?_⟩⟩
  have I3 := I2.ext x3
  clear I2 x3
  refine st_assign ?_
  simp only [wE, wEs, wT, wVar, lget, lset, wBin, binI, cmpA, cmpI, cmpB, truthA, wGetA, getF, wGetI, wSetA, putF, wSetI, wApp, rangeA, List.append_eq, List.cons_append, List.nil_append, List.length_cons, List.length_nil, List.replicate, ↓reduceIte, Nat.reduceEqDiff, if_true, if_false, List.getElem?_cons_zero, List.getElem?_cons_succ, Int.toNat_zero, Int.toNat_one, Nat.reduceAdd, Nat.reduceSub, Int.toNat_natCast, Int.reduceToNat, band_nat, bor_nat, bxor_nat, bandn_nat, band_7, band_15, band_1, bor_0, shr_1, shr_2, shr_3, shr_4, shr_8, shr_16, shr_32, shl_1, shr_v, i8 I3, d8 I3, posD]
  refine ⟨by decide, .inr ⟨f, r, B.side, 6, k, B.occ, rfl, I3.G, hside, hkn, ?_⟩⟩
  simp only [wE, wEs, wT, wVar, lget, lset, wBin, binI, cmpA, cmpI, cmpB, truthA, wGetA, getF, wGetI, wSetA, putF, wSetI, wApp, rangeA, List.append_eq, List.cons_append, List.nil_append, List.length_cons, List.length_nil, List.replicate, ↓reduceIte, Nat.reduceEqDiff, if_true, if_false, List.getElem?_cons_zero, List.getElem?_cons_succ, Int.toNat_zero, Int.toNat_one, Nat.reduceAdd, Nat.reduceSub, Int.toNat_natCast, Int.reduceToNat, band_nat, bor_nat, bxor_nat, bandn_nat, band_7, band_15, band_1, bor_0, shr_1, shr_2, shr_3, shr_4, shr_8, shr_16, shr_32, shl_1, shr_v, i8 I3, d8 I3, s8 I3, posD, e3]
  refine ⟨by omega, ?_⟩
  rw [show pieceAtt f r B.side 6 k B.occ = (kingT f r).getD k 0 from rfl]
  refine st_forR ?_
  simp only [wE, wEs, wT, wVar, lget, lset, wBin, binI, cmpA, cmpI, cmpB, truthA, wGetA, getF, wGetI, wSetA, putF, wSetI, wApp, rangeA, List.append_eq, List.cons_append, List.nil_append, List.length_cons, List.length_nil, List.replicate, ↓reduceIte, Nat.reduceEqDiff, if_true, if_false, List.getElem?_cons_zero, List.getElem?_cons_succ, Int.toNat_zero, Int.toNat_one, Nat.reduceAdd, Nat.reduceSub, Int.toNat_natCast, Int.reduceToNat, band_nat, bor_nat, bxor_nat, bandn_nat, band_7, band_15, band_1, bor_0, shr_1, shr_2, shr_3, shr_4, shr_8, shr_16, shr_32, shl_1, shr_v, i8 I3, d8 I3, posD, I3.G.i, I3.G.d, geoD, rv_range]
  refine ⟨⟨by decide, by omega, .inl rfl⟩, ?_⟩
  refine lw2_loop hc2 _ _ _ H3 (fun s hs => List.mem_range.mp hs) I3 fun x y H4 => nx_next (st_ret ?_)
  simp only [wE, wEs, wT, wVar, lget, lset, wBin, binI, cmpA, cmpI, cmpB, truthA, wGetA, getF, wGetI, wSetA, putF, wSetI, wApp, rangeA, List.append_eq, List.cons_append, List.nil_append, List.length_cons, List.length_nil, List.replicate, ↓reduceIte, Nat.reduceEqDiff, if_true, if_false, List.getElem?_cons_zero, List.getElem?_cons_succ, Int.toNat_zero, Int.toNat_one, Nat.reduceAdd, Nat.reduceSub, Int.toNat_natCast, Int.reduceToNat, band_nat, bor_nat, bxor_nat, bandn_nat, band_7, band_15, band_1, bor_0, shr_1, shr_2, shr_3, shr_4, shr_8, shr_16, shr_32, shl_1, shr_v]
  cases e : c.testBit k with
  | true => exact q _ _
  | false =>
    simp only [wE, wEs, wT, wVar, lget, lset, wBin, binI, cmpA, cmpI, cmpB, truthA, wGetA, getF, wGetI, wSetA, putF, wSetI, wApp, rangeA, List.append_eq, List.cons_append, List.nil_append, List.length_cons, List.length_nil, List.replicate, ↓reduceIte, Nat.reduceEqDiff, if_true, if_false, List.getElem?_cons_zero, List.getElem?_cons_succ, Int.toNat_zero, Int.toNat_one, Nat.reduceAdd, Nat.reduceSub, Int.toNat_natCast, Int.reduceToNat, band_nat, bor_nat, bxor_nat, bandn_nat, band_7, band_15, band_1, bor_0, shr_1, shr_2, shr_3, shr_4, shr_8, shr_16, shr_32, shl_1, shr_v]
    have hn : ¬ Hits f r B (1 - B.side) B.occ k := fun h => by
      have := (hc k).mpr h
      rw [e] at this; cases this
    have ho : B.occ.testBit k = true := (K.occ k).mpr (by rw [(hk k).mpr rfl]; omega)
    have eq : andn (andn ((kingT f r).getD k 0) (B.sd B.side)) c2 = andn (andn ((kingT f r).getD k 0) (B.sd B.side)) c := by
      generalize andn ((kingT f r).getD k 0) (B.sd B.side) = st
      apply Nat.eq_of_testBit_eq; intro i
      have : c2.testBit i = c.testBit i := by
        rw [Bool.eq_iff_iff, hc2 i, hc i]
        exact no_check ho hn
      rw [testBit_andn, testBit_andn, this]
    rw [eq, beq_self_eq_true]
    exact q _ _
end Mine

namespace Mine
theorem ints_all2 {ad : List Addr} : ∀ {vs : List Value} {ns : List Int}, IntsAre vs ns → All2 (Is ad) (ns.map .int) vs
  | _, _, .nil => .nil
  | _, _, .cons n t h => .cons ⟨t, rfl⟩ (ints_all2 h)
theorem undefs_loc {vars : List Str} {ad : List Addr} {m : Str → Option Value} (k : Nat) : LocOk vars ad (List.replicate k .undef) m := fun n x _ => .inl (lget_undefs k n)
theorem v_law_nd : v_law.Nodup := by decide +kernel
theorem law_tail {K : Frag} (CK : Chk K) {w : World} {mean : ExcName → Option Value} {mg mb : Str → Option Value} {scope : Scope} {qual : Str} {L fa lst : Addr} {cdv : Value} {h₀ : Heap} {m : Str → Option Value} {s : Shared} {vs : List Value} {ns : List Int} {tl : List Stmt} {p1 p2 p3 p4 p5 p6 p7 p8 : Pos} {n1 n2 : Nat} {Qc : Flow → Shared → Prop} {Ec : Value → Shared → Prop}
    (hk : scope.kind = .function) (hsc : scope.names.lookup (Str.ofString "script") = some .local) (hsl : (Cx.mk v_law scope theGlobs theAttrs).loc (Str.ofString "slate") = some 1)
    (hcomp : compSs ⟨v_law, scope, theGlobs, theAttrs⟩ tl = some b_law)
    (K0 : Below callerA h₀ [] h₀) (X : K.In h₀) (T : Top qV (looseW qV looseL) mean mg mb h₀)
    (F : Fr h₀ L s.heap m) (N : News h₀ L s.heap []) (hm : m (Str.ofString "script") = some (.ref lst)) (hL : h₀.IsList lst vs.toArray) (hI : IntsAre vs ns) (hlen : ns.length ≤ 63)
    (k : ∀ h' tk m', Fr h₀ L h' m' → Qc (.ret (.bool true)) { s with heap := h', toks := tk }) :
    wpAny (model PySem.Challenge.pw_sa0132_01 w) (callerA.deeper (envOf qual scope L fa cdv))
      (execs (.Assign [.Name (Str.ofString "slate") p1] (.List [.Subscript (.Name (Str.ofString "script") p2) (.Slice none (some (.Constant (.int 40) n1 p3)) none p4) p5, .Constant (.int 0) n2 p6] p7) p8 :: tl) (envOf qual scope L fa cdv)) Qc Ec s := by
  have hvl : vs.length = ns.length := by have := (ints_all2 (ad := []) hI).length; simpa using this.symm
  have B : Fm (ZZ CK w mean mg mb) (Oo 9) ⟨v_law, scope, theGlobs, theAttrs⟩ 18 h₀ L (callerA.deeper (envOf qual scope L fa cdv)) (envOf qual scope L fa cdv) :=
    { en := ⟨qual, fa, cdv, rfl⟩, kd := hk, nd := v_law_nd, gl := globs_ok CK w mean mg mb, at' := rfl, fr := ⟨[], callerA, h₀, rfl, K0⟩, X := X, T := T, hh := rfl, dp := (by decide : 1 + claimMargin + 1 + 8 * (18 + 1) < recursionLimit), orc := orac CK w mean mg mb 9 }
  have R0 : Rp (ZZ CK w mean mg mb) h₀ L s.heap [] [] [] := ⟨N, by simp, by simp, rfl, fun n a o e => by simp at e⟩
  refine wpAny_execs_cons (wpAny_Assign_Name (List_ ?_) rfl)
  refine spliced_cons (x := eval (.Subscript (.Name (Str.ofString "script") p2) (.Slice none (some (.Constant (.int 40) n1 p3)) none p4) p5) (envOf qual scope L fa cdv)) ?_
  refine wpAny_Subscript_list_slice ?_ (by intro _ _; rfl)
  refine ld F hm ?_ hk hsc
  refine evalPart_none_step (evalPart_some_step (wpAny_Constant_int ?_))
  have hL' : s.heap.IsList lst vs.toArray := (let ⟨o, ho, r⟩ := hL; ⟨o, F.keep _ _ ho, r⟩)
  refine ⟨lst, vs.toArray, none, some 40, rfl, hL', by simp [sizeLine_eq]; omega, .none, .int 40 _, ?_⟩
  have hpick := slice_ints_uptoW hI (y := 40) (by decide)
  generalize slicePick vs.toArray none (some 40) none = xs at hpick ⊢
  have xe : xs = List.toArray xs.toList := by simp
  generalize xs.toList = xl at hpick xe
  subst xe
  -- the slice lies hidden, its list is the first object
  have F1 := F.push { cls := .type "slice", data := .fields #[.none, .int 40 s.toks, .none] }
  have N1 : News h₀ L (s.heap.push { cls := .type "slice", data := .fields #[.none, .int 40 s.toks, .none] }) [(s.heap.objs.size, { cls := .type "slice", data := .fields #[.none, .int 40 s.toks, .none] })] := N.push F _
  obtain ⟨R1, g1, na⟩ := R0.hide N1 (fun p hp => by cases hp)
  have F2 := F1.push { cls := .type "list", data := .seq xl.toArray }
  have N2 := N1.push F1 { cls := .type "list", data := .seq xl.toArray }
  rw [Heap.size_push] at N2
  obtain ⟨R2, g2, e2⟩ := R1.push (o := .list ((ns.take 40).map .int)) N2 (fun p hp => by
    rw [List.mem_singleton] at hp; rw [hp]; exact Nat.lt_succ_self _) ⟨xl, 0, rfl, ints_all2 hpick⟩
  generalize (s.heap.push { cls := .type "slice", data := .fields #[.none, .int 40 s.toks, .none] }).push { cls := .type "list", data := .seq xl.toArray } = h2 at F2 N2 R2 ⊢
  refine spliced_cons (x := eval (.Constant (.int 0) n2 p6) (envOf qual scope L fa cdv)) (wpAny_Constant_int (spliced_nil ?_))
  refine newList_K F2 N2 (fun D h3 F3 N3 lt => ?_) (by rw [sizeLine_eq]; exact Nat.le_of_ble_eq_true rfl)
  obtain ⟨R3, g3, e3⟩ := R2.push (o := .list [.ref 0, .int 0]) N3 lt ⟨_, 0, rfl, .cons ⟨_, get_app e2, rfl⟩ (.cons ⟨_, rfl⟩ .nil)⟩
  refine store_ok (l := List.replicate 12 .undef) (v := .ref 1) B hsl ⟨_, e3, rfl⟩ F3 R3 (undefs_loc 12) fun m' h4 F4 R4 L4 => ?_
  refine execs_sound B tl b_law hcomp (lset (List.replicate 12 .undef) 1 (.ref 1)) _ (fun fl _ _ => fl = .ret (.bool true)) (law_walk (ns := ns.take 40) (by rw [List.length_take]; omega) fun _ _ => rfl) m' _ _ _ _ _ F4 R4 L4 fun fl l' H' fl' m'' h' tk ad' news' q F' R' L' g i => ?_
  subst q
  obtain ⟨v', rfl, rfl⟩ := i
  exact k h' tk m'' F'
end Mine

set_option maxHeartbeats 8000000 in
theorem PySem.Challenge.cw_sa0132_01_holds : PySem.Challenge.rw_sa0132_01.Holds := by
  w_on
  refine holds_law Mine.law_said fun said => ?_
  refine holds_open (q := Mine.qV) (loose := Mine.looseL) (Xt := Mine.xtV) (XP := XL Mine.qV []) (Yf := fun s => Mine.Says s.heap) (Ya := fun _ => True) (YP := fun _ h => Mine.Says h) (N := 6000) Mine.left (fun w s e => of_eq_true e) (fun w h h' x k => x.keeps k) (fun s e => xl_of s (Bool.and_eq_true_iff.mp e).1) XL.keeps (by rfl) (by rfl) (by rfl) (fun s e => recFacts_of (Bool.and_eq_true_iff.mp e).2) (by rfl) (by first | assumption | decide +kernel) (by decide +kernel) ⟨rfl, rfl, rfl, rfl, rfl, by decide +kernel⟩ ?hw ?hc
  case hw => w_witness2
  intro w s₀ s₁ mg mb G Y fa o pm cd doc dV kV ho hd hcd hD hmg hg args vals as hpre hlay hrd hwl hlo
  obtain ⟨K, KX, CK⟩ := Y
  have X := (Ground.X G).1
  have V := (Ground.X G).2
  refine Ground.open G ?_
  intro T B D TE TW
  try (refine guard_noD D (by decide +kernel) ?_; clear D)
  obtain ⟨_, _, M⟩ := bmod_of_top T
  have TA := at_of_top T
  try (obtain ⟨_, _, he, B0⟩ := based_of_top T rfl hmg ho hd; have he' : cd = _ := he; subst he'; clear he)
  clear hmg
  wrow_args hpre hlay hrd hwl hlo
  all_goals (
    first | refine callC_kw (enter_call ?_) | refine enter_call ?_ | refine callC_kw (enter_callW ?_) | refine enter_callW ?_ | w_how
    w_top on
    try refine codeAny_mono ?_ (fun _ _ g => GoodW.toG g)
    have K0 := below_caller (Top.heap T)
    w_call any ho hd hcd hD T F
    clear hd TA
    skip)
  rename IntsAre _ _ => hI
  rename Heap.IsList _ _ _ => hL
  rename News _ _ _ _ => N
  rename ¬ _ < _ => hc
  refine Mine.law_tail CK (by rfl) (by kernel_rfl) (by kernel_rfl) (by kernel_rfl) K0 KX T F N (by rfl) hL hI (by omega) fun h' tk m' F' => ?_
  k_end
  wrow_close
