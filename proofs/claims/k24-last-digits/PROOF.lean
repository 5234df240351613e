import PyProof.Rows.All
import Wide.All
import OpenK.AllK
import Wide.FinOn
import PySem.Challenge.RW_whateverboxes_k24_last_digits
import HandS.ForMost
import HandS.Wide
import HandS.Style
import HandS.TupAny
import HandS.TupMul
import HandS.Defaults
set_option Elab.async false
set_option linter.all false
set_option maxRecDepth 100000
set_option autoImplicit false
namespace L3
open PySem L2
inductive D where
  | non | bl (b : Bool) | int (i : Int) | str (x : Str)
  | lst (xs : List D) | tup (xs : List D)
  | dct (ks : List Key) (vs : List D)
  | ins (t : Nat) (fs : List D)
  | deck
structure Gx where
  cls : Nat → Addr
  fld : Nat → List Str
  deck : Addr
  dk : List Addr
  DI : Nat → Hp → Prop
  frame : ∀ n (H H' : Hp), (∀ a ∈ dk, ∀ o, H a = some o → H' a = some o) → DI n H → DI n H'
  dal : ∀ n H, DI n H → ∀ a ∈ dk, H a ≠ none
mutual
def Rep (K : PySem.W.Frag) (G : Gx) (H : Hp) (v : V) : D → Prop
  | .non => v = .non
  | .bl b => v = .bl b
  | .int i => v = .int i
  | .str x => v = .str x
  | .lst ds => ∃ a xs, v = .ref a ∧ H a = some (.lst xs) ∧ RepAll K G H xs ds
  | .tup ds => ∃ a xs, v = .ref a ∧ SqT K H a xs ∧ RepAll K G H xs ds
  | .dct ks ds => ∃ a xs, v = .ref a ∧ H a = some (.dK (ks.zip xs)) ∧ ks.length = xs.length ∧ RepAll K G H xs ds
  | .ins t ds => ∃ a dx xs, v = .ref a ∧ H a = some (.ins (G.cls t) dx ((G.fld t).zip xs)) ∧ (G.fld t).length = xs.length ∧ RepAll K G H xs ds
  | .deck => v = .ref G.deck
def RepAll (K : PySem.W.Frag) (G : Gx) (H : Hp) (vs : List V) : List D → Prop
  | [] => vs = []
  | d :: ds => ∃ x xs, vs = x :: xs ∧ Rep K G H x d ∧ RepAll K G H xs ds
end
theorem same_t {K : PySem.W.Frag} {H H' : Hp} {a : Addr} {xs : List V} (e : Same H H') (h : SqT K H a xs) : SqT K H' a xs := by
  rcases h with (h | ⟨o, h⟩) | h
  · exact .inl (.inl (e _ _ h))
  · exact .inl (.inr ⟨o, e _ _ h⟩)
  · exact .inr h
variable {K : PySem.W.Frag} {G : Gx} {H H' H1 H2 : Hp} {v : V} {d : D}
mutual
theorem Rep.mono (e : Same H H') : ∀ (d : D) {v : V}, Rep K G H v d → Rep K G H' v d
  | .non, _, h => h
  | .bl _, _, h => h
  | .int _, _, h => h
  | .str _, _, h => h
  | .lst ds, _, ⟨a, xs, h1, h2, h3⟩ => ⟨a, xs, h1, e _ _ h2, RepAll.mono e ds h3⟩
  | .tup ds, _, ⟨a, xs, h1, h2, h3⟩ => ⟨a, xs, h1, same_t e h2, RepAll.mono e ds h3⟩
  | .dct ks ds, _, ⟨a, xs, h1, h2, h3, h4⟩ => ⟨a, xs, h1, e _ _ h2, h3, RepAll.mono e ds h4⟩
  | .ins t ds, _, ⟨a, dx, xs, h1, h2, h3, h4⟩ => ⟨a, dx, xs, h1, e _ _ h2, h3, RepAll.mono e ds h4⟩
  | .deck, _, h => h
theorem RepAll.mono (e : Same H H') : ∀ (ds : List D) {vs : List V}, RepAll K G H vs ds → RepAll K G H' vs ds
  | [], _, h => h
  | d :: ds, _, ⟨x, xs, h1, h2, h3⟩ => ⟨x, xs, h1, Rep.mono e d h2, RepAll.mono e ds h3⟩
end
theorem RepAll.length : ∀ {ds : List D} {vs : List V}, RepAll K G H vs ds → vs.length = ds.length
  | [], _, h => by cases h; rfl
  | d :: ds, _, ⟨x, xs, h1, h2, h3⟩ => by subst h1; simp [RepAll.length h3]
theorem RepAll.get : ∀ {ds : List D} {vs : List V} {i : Nat} {d : D}, RepAll K G H vs ds → ds[i]? = some d → ∃ v, vs[i]? = some v ∧ Rep K G H v d
  | [], _, _, _, _, e => by simp at e
  | d :: ds, _, 0, d', ⟨x, xs, h1, h2, h3⟩, e => by
    subst h1; simp at e; subst e; exact ⟨x, rfl, h2⟩
  | d :: ds, _, i + 1, d', ⟨x, xs, h1, h2, h3⟩, e => by
    subst h1
    obtain ⟨v, a, b⟩ := RepAll.get (i := i) (d := d') h3 (by simpa using e)
    exact ⟨v, by simpa using a, b⟩
theorem RepAll.getV : ∀ {ds : List D} {vs : List V} {i : Nat} {v : V}, RepAll K G H vs ds → vs[i]? = some v → ∃ d, ds[i]? = some d ∧ Rep K G H v d
  | [], _, _, _, h, e => by cases h; simp at e
  | d :: ds, _, 0, v, ⟨x, xs, h1, h2, h3⟩, e => by
    subst h1; simp at e; subst e; exact ⟨d, rfl, h2⟩
  | d :: ds, _, i + 1, v, ⟨x, xs, h1, h2, h3⟩, e => by
    subst h1
    obtain ⟨v, a, b⟩ := RepAll.getV (i := i) (v := v) h3 (by simpa using e)
    exact ⟨v, by simpa using a, b⟩
theorem RepAll.append : ∀ {ds es : List D} {vs us : List V}, RepAll K G H vs ds → RepAll K G H us es → RepAll K G H (vs ++ us) (ds ++ es)
  | [], _, _, _, h, h' => by cases h; exact h'
  | d :: ds, _, _, _, ⟨x, xs, h1, h2, h3⟩, h' => by subst h1; exact ⟨x, xs ++ _, rfl, h2, RepAll.append h3 h'⟩
theorem RepAll.drop : ∀ (n : Nat) {ds : List D} {vs : List V}, RepAll K G H vs ds → RepAll K G H (vs.drop n) (ds.drop n)
  | 0, _, _, h => h
  | _ + 1, [], _, h => by cases h; exact rfl
  | n + 1, d :: ds, _, ⟨x, xs, h1, h2, h3⟩ => by subst h1; exact RepAll.drop n h3
theorem RepAll.take : ∀ (n : Nat) {ds : List D} {vs : List V}, RepAll K G H vs ds → RepAll K G H (vs.take n) (ds.take n)
  | 0, _, _, h => rfl
  | _ + 1, [], _, h => by cases h; exact rfl
  | n + 1, d :: ds, _, ⟨x, xs, h1, h2, h3⟩ => by subst h1; exact ⟨x, _, rfl, h2, RepAll.take n h3⟩
theorem RepAll.reverse : ∀ {ds : List D} {vs : List V}, RepAll K G H vs ds → RepAll K G H vs.reverse ds.reverse
  | [], _, h => by cases h; exact rfl
  | d :: ds, _, ⟨x, xs, h1, h2, h3⟩ => by
    subst h1
    rw [List.reverse_cons, List.reverse_cons]
    exact (RepAll.reverse h3).append ⟨x, [], rfl, h2, rfl⟩
theorem RepAll.set : ∀ {ds : List D} {vs : List V} (i : Nat) {v : V} {d : D}, RepAll K G H vs ds → Rep K G H v d → RepAll K G H (vs.set i v) (ds.set i d)
  | [], _, _, _, _, h, _ => by cases h; exact rfl
  | _ :: _, _, 0, _, _, ⟨x, xs, h1, h2, h3⟩, r => by subst h1; exact ⟨_, xs, rfl, r, h3⟩
  | _ :: _, _, i + 1, _, _, ⟨x, xs, h1, h2, h3⟩, r => by subst h1; exact ⟨x, _, rfl, h2, RepAll.set i h3 r⟩
theorem RepAll.one {v : V} {d : D} (h : Rep K G H v d) : RepAll K G H [v] [d] := ⟨v, [], rfl, h, rfl⟩
theorem RepAll.dropLast {ds : List D} {vs : List V} (h : RepAll K G H vs ds) : RepAll K G H vs.dropLast ds.dropLast := by
  rw [List.dropLast_eq_take, List.dropLast_eq_take, h.length]; exact h.take _
theorem RepAll.eraseIdx : ∀ {ds : List D} {vs : List V} (i : Nat), RepAll K G H vs ds → RepAll K G H (vs.eraseIdx i) (ds.eraseIdx i)
  | [], _, _, h => by cases h; exact rfl
  | _ :: _, _, 0, ⟨x, xs, h1, h2, h3⟩ => by subst h1; exact h3
  | _ :: _, _, i + 1, ⟨x, xs, h1, h2, h3⟩ => by subst h1; exact ⟨x, _, rfl, h2, RepAll.eraseIdx i h3⟩
theorem RepAll.ints : ∀ {ns : List Int} {vs : List V}, RepAll K G H vs (ns.map D.int) → vs = ns.map V.int
  | [], _, h => h
  | n :: ns, _, ⟨x, xs, h1, h2, h3⟩ => by
    have e : x = .int n := h2
    subst h1 e
    rw [RepAll.ints h3]; rfl
theorem RepAll.of_ints : ∀ (ns : List Int), RepAll K G H (ns.map V.int) (ns.map D.int)
  | [] => rfl
  | n :: ns => ⟨.int n, _, rfl, rfl, RepAll.of_ints ns⟩
theorem RepAll.strs : ∀ {ns : List Str} {vs : List V}, RepAll K G H vs (ns.map D.str) → vs = ns.map V.str
  | [], _, h => h
  | n :: ns, _, ⟨x, xs, h1, h2, h3⟩ => by
    have e : x = .str n := h2
    subst h1 e
    rw [RepAll.strs h3]; rfl
theorem RepAll.of_strs : ∀ (ns : List Str), RepAll K G H (ns.map V.str) (ns.map D.str)
  | [] => rfl
  | n :: ns => ⟨.str n, _, rfl, rfl, RepAll.of_strs ns⟩
theorem RepAll.bls : ∀ {ns : List Bool} {vs : List V}, RepAll K G H vs (ns.map D.bl) → vs = ns.map V.bl
  | [], _, h => h
  | n :: ns, _, ⟨x, xs, h1, h2, h3⟩ => by
    have e : x = .bl n := h2
    subst h1 e
    rw [RepAll.bls h3]; rfl

open Classical in
noncomputable def mask (M : List Addr) (H : Hp) : Hp := fun a => if a ∈ M then none else H a
variable {M M' : List Addr}
theorem mask_in {a : Addr} (h : a ∈ M) : mask M H a = none := if_pos h
theorem mask_out {a : Addr} (h : a ∉ M) : mask M H a = H a := if_neg h
theorem mask_some {a : Addr} {o : HO} (h : mask M H a = some o) : a ∉ M ∧ H a = some o := by
  by_cases q : a ∈ M
  · rw [mask_in q] at h; cases h
  · rw [mask_out q] at h; exact ⟨q, h⟩
theorem mask_le : Same (mask M H) H := fun _ _ h => (mask_some h).2
theorem mask_same (h : ∀ b o, b ∉ M → H b = some o → H' b = some o) : Same (mask M H) (mask M H') := fun b o e => by
  obtain ⟨q, e⟩ := mask_some e
  rw [mask_out q]; exact h b o q e
theorem mask_mono (h : Same H H') : Same (mask M H) (mask M H') := mask_same fun b o _ e => h b o e
theorem mask_sub (h : ∀ a ∈ M', a ∈ M) : Same (mask M H) (mask M' H) := fun b o e => by
  obtain ⟨q, e⟩ := mask_some e
  rw [mask_out fun z => q (h b z)]; exact e
theorem mask_upd {p : Addr} {o : HO} (h : p ∈ M) : mask M (upd H p o) = mask M H := by
  funext a
  by_cases q : a ∈ M
  · rw [mask_in q, mask_in q]
  · rw [mask_out q, mask_out q, upd_ne fun z => q (by rw [z]; exact h)]
theorem mask_new {p : Addr} (hp : H p = none) (e : Same H H') : Same (mask M H) (mask (p :: M) H') := fun b o h => by
  obtain ⟨q, h⟩ := mask_some h
  have : b ∉ p :: M := fun z => by
    rcases List.mem_cons.mp z with z | z
    · subst z; rw [hp] at h; cases h
    · exact q z
  rw [mask_out this]; exact e b o h

inductive SV where
  | sh (d : D) | ow (d : D)
structure St3 where
  sl : List (Option SV)
  n : Nat
/-- a list, a dict that may change, at p -/
def OwnAt (K : PySem.W.Frag) (G : Gx) (M : List Addr) (H : Hp) (p : Addr) : D → Prop
  | .lst ds => ∃ xs, H p = some (.lst xs) ∧ RepAll K G (mask M H) xs ds
  | .dct ks ds => ∃ xs, H p = some (.dK (ks.zip xs)) ∧ ks.length = xs.length ∧ RepAll K G (mask M H) xs ds
  | _ => False
theorem OwnAt.al {p : Addr} : ∀ {d : D}, OwnAt K G M H p d → H p ≠ none
  | .lst _, ⟨_, h, _⟩ => by rw [h]; simp
  | .dct _ _, ⟨_, h, _⟩ => by rw [h]; simp
theorem OwnAt.to {p : Addr} (hm : Same (mask M H) (mask M' H')) (hp : ∀ o, H p = some o → H' p = some o) : ∀ {d : D}, OwnAt K G M H p d → OwnAt K G M' H' p d
  | .lst _, ⟨xs, h, r⟩ => ⟨xs, hp _ h, r.mono hm⟩
  | .dct _ _, ⟨xs, h, l, r⟩ => ⟨xs, hp _ h, l, r.mono hm⟩
theorem OwnAt.rep {p : Addr} (hm : Same (mask M H) H1) (hp : ∀ o, H p = some o → H1 p = some o) : ∀ {d : D}, OwnAt K G M H p d → Rep K G H1 (.ref p) d
  | .lst _, ⟨xs, h, r⟩ => ⟨p, xs, rfl, hp _ h, r.mono hm⟩
  | .dct _ _, ⟨xs, h, l, r⟩ => ⟨p, xs, rfl, hp _ h, l, r.mono hm⟩
structure Ent where
  H0 : Hp
  ads : List Addr
  gh : List (V × D)
def isOwn (δ : St3) (i : Nat) : Prop := ∃ d : D, δ.sl[i]? = some (some (SV.ow d))
structure SR (K : PySem.W.Frag) (G : Gx) (E : Ent) (am : Nat → Addr) (M : List Addr) (σ : L2.St) (δ : St3) (H : Hp) : Prop where
  len : σ.length = δ.sl.length
  sh : ∀ (i : Nat) (d : D), δ.sl[i]? = some (some (SV.sh d)) → ∃ v, σ[i]? = some (some v) ∧ Rep K G (mask M H) v d
  ow : ∀ (i : Nat) (d : D), δ.sl[i]? = some (some (SV.ow d)) → σ[i]? = some (some (.ref (am i))) ∧ am i ∈ M ∧ am i ∉ E.ads ∧ E.H0 (am i) = none ∧ OwnAt K G M H (am i) d
  inj : ∀ i j, isOwn δ i → isOwn δ j → am i = am j → i = j
  ads : ∀ a ∈ E.ads, a ∈ M
  dks : ∀ a ∈ G.dk, a ∈ E.ads
  al : ∀ a ∈ M, H a ≠ none
  base : ∀ b o, E.H0 b = some o → b ∉ G.dk → H b = some o
  di : G.DI δ.n H
  gh : ∀ p ∈ E.gh, Rep K G (mask M H) p.1 p.2
/-- what an expression's run may change: the deck, the own lists -/
def Ext (G : Gx) (am : Nat → Addr) (δ : St3) (H H' : Hp) : Prop := ∀ b o, H b = some o → b ∉ G.dk → (∀ i, isOwn δ i → am i ≠ b) → H' b = some o
variable {E : Ent} {am : Nat → Addr} {σ : L2.St} {δ δ' δ1 δ2 : St3}
theorem Ext.of (h : Same H H') : Ext G am δ H H' := fun b o e _ _ => h b o e
theorem Ext.refl : Ext G am δ H H := fun _ _ e _ _ => e
theorem Ext.trans (a : Ext G am δ H H1) (o : ∀ i, isOwn δ1 i → isOwn δ i) (b : Ext G am δ1 H1 H2) : Ext G am δ H H2 := fun x u e h1 h2 => b x u (a x u e h1 h2) h1 fun i hi => h2 i (o i hi)
theorem SR.mask (S : SR K G E am M σ δ H) (e : Ext G am δ H H') : Same (mask M H) (mask M H') := mask_same fun b o q h =>
  e b o h (fun z => q (S.ads b (S.dks b z))) fun i ⟨d, hi⟩ z => q (z ▸ (S.ow i d hi).2.1)
theorem SR.grow (S : SR K G E am M σ δ H) (e : Same H H') : SR K G E am M σ δ H' where
  len := S.len
  sh := fun i d h => let ⟨v, a, b⟩ := S.sh i d h; ⟨v, a, b.mono (mask_mono e)⟩
  ow := fun i d h => let ⟨a, b, c, f, g⟩ := S.ow i d h; ⟨a, b, c, f, g.to (mask_mono e) fun o => e _ o⟩
  inj := S.inj
  ads := S.ads
  dks := S.dks
  al := fun a h z => by
    cases q : H a with
    | none => exact S.al a h q
    | some o => rw [e a o q] at z; cases z
  base := fun b o h k => e b o (S.base b o h k)
  di := G.frame _ _ _ (fun a _ o h => e a o h) S.di
  gh := fun p h => (S.gh p h).mono (mask_mono e)
/-- one more thing that is not leant on -/
theorem SR.more {p : Addr} (S : SR K G E am M σ δ H) (hp : H p = none) (e : Same H H') (hn : H' p ≠ none) : SR K G E am (p :: M) σ δ H' where
  len := S.len
  sh := fun i d h => let ⟨v, a, b⟩ := S.sh i d h; ⟨v, a, b.mono (mask_new hp e)⟩
  ow := fun i d h => let ⟨a, b, c, f, g⟩ := S.ow i d h; ⟨a, List.mem_cons_of_mem _ b, c, f, g.to (mask_new hp e) fun o => e _ o⟩
  inj := S.inj
  ads := fun a h => List.mem_cons_of_mem _ (S.ads a h)
  dks := S.dks
  al := fun a h z => by
    rcases List.mem_cons.mp h with h | h
    · subst h; exact hn z
    · cases q : H a with
      | none => exact S.al a h q
      | some o => rw [e a o q] at z; cases z
  base := fun b o h k => e b o (S.base b o h k)
  di := G.frame _ _ _ (fun a _ o h => e a o h) S.di
  gh := fun p h => (S.gh p h).mono (mask_new hp e)
/-- the deck may change -/
theorem SR.after {n : Nat} (S : SR K G E am M σ δ H) (e : ∀ b o, H b = some o → b ∉ G.dk → H' b = some o) (di : G.DI n H') : SR K G E am M σ ⟨δ.sl, n⟩ H' where
  len := S.len
  sh := fun i d h => let ⟨v, a, b⟩ := S.sh i d h; ⟨v, a, b.mono (mask_same fun b o q h => e b o h fun z => q (S.ads b (S.dks b z)))⟩
  ow := fun i d h => let ⟨a, b, c, f, g⟩ := S.ow i d h; ⟨a, b, c, f, g.to (mask_same fun b o q h => e b o h fun z => q (S.ads b (S.dks b z))) fun o h => e _ o h fun z => c (S.dks _ z)⟩
  inj := S.inj
  ads := S.ads
  dks := S.dks
  al := fun a h z => by
    by_cases k : a ∈ G.dk
    · exact G.dal _ _ di a k z
    · cases q : H a with
      | none => exact S.al a h q
      | some o => rw [e a o q k] at z; cases z
  base := fun b o h k => e b o (S.base b o h k) k
  di := di
  gh := fun p h => (S.gh p h).mono (mask_same fun b o q h => e b o h fun z => q (S.ads b (S.dks b z)))
theorem get_set {α : Type} {l : List α} {i j : Nat} {x y : α} (h : (l.set i x)[j]? = some y) : (j = i ∧ y = x) ∨ (j ≠ i ∧ l[j]? = some y) := by
  by_cases e : i = j
  · subst e
    rw [List.getElem?_set_self'] at h
    cases q : l[i]? with
    | none => rw [q] at h; cases h
    | some z => rw [q] at h; exact .inl ⟨rfl, (Option.some.inj h).symm⟩
  · rw [List.getElem?_set_ne e] at h
    exact .inr ⟨fun z => e z.symm, h⟩
theorem set_get {α β : Type} {l : List α} {m : List β} {i : Nat} {x : α} {y : β} {z : β} (hl : l.length = m.length) (h : (m.set i y)[i]? = some z) : (l.set i x)[i]? = some x := by
  have : i < m.length := by
    have := (List.getElem?_eq_some_iff.mp h).1
    rwa [List.length_set] at this
  rw [List.getElem?_set_self (by omega)]
theorem SR.set_sh {i : Nat} (S : SR K G E am M σ δ H) (r : Rep K G (L3.mask M H) v d) : SR K G E am M (σ.set i (some v)) ⟨δ.sl.set i (some (.sh d)), δ.n⟩ H where
  len := by simp [S.len]
  sh := fun j e h => by
    rcases get_set h with ⟨q, z⟩ | ⟨q, z⟩
    · subst q
      injection z with z; injection z with z
      subst z
      exact ⟨v, set_get S.len h, r⟩
    · rw [List.getElem?_set_ne (Ne.symm q)]; exact S.sh j e z
  ow := fun j e h => by
    rcases get_set h with ⟨q, z⟩ | ⟨q, z⟩
    · injection z with z; cases z
    · rw [List.getElem?_set_ne (Ne.symm q)]; exact S.ow j e z
  inj := fun a b ⟨x, ha⟩ ⟨y, hb⟩ => by
    rcases get_set ha with ⟨_, z⟩ | ⟨_, ha⟩
    · injection z with z; cases z
    · rcases get_set hb with ⟨_, z⟩ | ⟨_, hb⟩
      · injection z with z; cases z
      · exact S.inj a b ⟨x, ha⟩ ⟨y, hb⟩
  ads := S.ads
  dks := S.dks
  al := S.al
  base := S.base
  di := S.di
  gh := S.gh
theorem SR.set_none {i : Nat} (S : SR K G E am M σ δ H) : SR K G E am M (σ.set i none) ⟨δ.sl.set i none, δ.n⟩ H where
  len := by simp [S.len]
  sh := fun j e h => by
    rcases get_set h with ⟨q, z⟩ | ⟨q, z⟩
    · cases z
    · rw [List.getElem?_set_ne (Ne.symm q)]; exact S.sh j e z
  ow := fun j e h => by
    rcases get_set h with ⟨q, z⟩ | ⟨q, z⟩
    · cases z
    · rw [List.getElem?_set_ne (Ne.symm q)]; exact S.ow j e z
  inj := fun a b ⟨x, ha⟩ ⟨y, hb⟩ => by
    rcases get_set ha with ⟨_, z⟩ | ⟨_, ha⟩
    · cases z
    · rcases get_set hb with ⟨_, z⟩ | ⟨_, hb⟩
      · cases z
      · exact S.inj a b ⟨x, ha⟩ ⟨y, hb⟩
  ads := S.ads
  dks := S.dks
  al := S.al
  base := S.base
  di := S.di
  gh := S.gh
/-- a slot takes a list that nothing holds (p is among what is not leant on) -/
theorem SR.set_ow {i : Nat} {p : Addr} (S : SR K G E am M σ δ H) (hp : p ∈ M) (ha : p ∉ E.ads) (hm : ∀ (j : Nat) (d : D), δ.sl[j]? = some (some (SV.ow d)) → am j ≠ p) (h0 : E.H0 p = none) (o : OwnAt K G M H p d) :
    SR K G E (fun j => if j = i then p else am j) M (σ.set i (some (.ref p))) ⟨δ.sl.set i (some (.ow d)), δ.n⟩ H where
  len := by simp [S.len]
  sh := fun j e h => by
    rcases get_set h with ⟨q, z⟩ | ⟨q, z⟩
    · injection z with z; cases z
    · rw [List.getElem?_set_ne (Ne.symm q)]; exact S.sh j e z
  ow := fun j e h => by
    rcases get_set h with ⟨q, z⟩ | ⟨q, z⟩
    · subst q
      injection z with z; injection z with z
      subst z
      rw [if_pos rfl]
      exact ⟨set_get S.len h, hp, ha, h0, o⟩
    · rw [List.getElem?_set_ne (Ne.symm q), if_neg q]; exact S.ow j e z
  inj := fun a b ⟨x, hA⟩ ⟨y, hB⟩ e => by
    rcases get_set hA with ⟨q1, z⟩ | ⟨q1, hA⟩
    · rcases get_set hB with ⟨q2, z⟩ | ⟨q2, hB⟩
      · exact q1.trans q2.symm
      · rw [if_pos q1, if_neg q2] at e
        exact absurd e.symm (hm b y hB)
    · rcases get_set hB with ⟨q2, z⟩ | ⟨q2, hB⟩
      · rw [if_neg q1, if_pos q2] at e
        exact absurd e (hm a x hA)
      · rw [if_neg q1, if_neg q2] at e
        exact S.inj a b ⟨x, hA⟩ ⟨y, hB⟩ e
  ads := S.ads
  dks := S.dks
  al := S.al
  base := S.base
  di := S.di
  gh := S.gh
/-- leant on again -/
theorem SR.less (S : SR K G E am M σ δ H) (hs : ∀ a ∈ M', a ∈ M) (ha : ∀ a ∈ E.ads, a ∈ M') (hm : ∀ (j : Nat) (d : D), δ.sl[j]? = some (some (SV.ow d)) → am j ∈ M') : SR K G E am M' σ δ H where
  len := S.len
  sh := fun j e h => let ⟨v, a, b⟩ := S.sh j e h; ⟨v, a, b.mono (mask_sub hs)⟩
  ow := fun j e h => let ⟨a, b, c, f, g⟩ := S.ow j e h; ⟨a, hm j e h, c, f, g.to (mask_sub hs) fun o e => e⟩
  inj := S.inj
  ads := ha
  dks := S.dks
  al := fun a h => S.al a (hs a h)
  base := S.base
  di := S.di
  gh := fun p h => (S.gh p h).mono (mask_sub hs)
theorem SR.ungh {l l' : List (V × D)} {H0 : Hp} {ads : List Addr} (S : SR K G ⟨H0, ads, l⟩ am M σ δ H) (h : ∀ p ∈ l', p ∈ l) : SR K G ⟨H0, ads, l'⟩ am M σ δ H :=
  ⟨S.len, S.sh, S.ow, S.inj, S.ads, S.dks, S.al, S.base, S.di, fun p hp => S.gh p (h p hp)⟩
theorem SR.addgh {l : List (V × D)} {H0 : Hp} {ads : List Addr} (S : SR K G ⟨H0, ads, l⟩ am M σ δ H) (l' : List (V × D)) (h : ∀ p ∈ l', Rep K G (L3.mask M H) p.1 p.2) : SR K G ⟨H0, ads, l' ++ l⟩ am M σ δ H :=
  ⟨S.len, S.sh, S.ow, S.inj, S.ads, S.dks, S.al, S.base, S.di, fun p hp => (List.mem_append.mp hp).elim (h p) (S.gh p)⟩
/-- an own list changes -/
theorem SR.mut {i : Nat} {o : HO} {d' : D} (S : SR K G E am M σ δ H) (h : δ.sl[i]? = some (some (.ow d))) (ho : OwnAt K G M (upd H (am i) o) (am i) d') : SR K G E am M σ ⟨δ.sl.set i (some (.ow d')), δ.n⟩ (upd H (am i) o) := by
  obtain ⟨h1, h2, h3, h4, h5⟩ := S.ow i d h
  refine ⟨by simp [S.len], fun j e hj => ?_, fun j e hj => ?_, fun a b ⟨x, ha⟩ ⟨y, hb⟩ e => ?_, S.ads, S.dks, fun a ha => ?_, fun b u hb k => ?_, ?_, fun p hp => by rw [mask_upd h2]; exact S.gh p hp⟩
  · rcases get_set hj with ⟨q, z⟩ | ⟨q, z⟩
    · injection z with z; cases z
    · rw [mask_upd h2]; exact S.sh j e z
  · rcases get_set hj with ⟨q, z⟩ | ⟨q, z⟩
    · subst q
      injection z with z; injection z with z
      subst z
      exact ⟨h1, h2, h3, h4, ho⟩
    · obtain ⟨a, b, c, f, g⟩ := S.ow j e z
      have ne : am j ≠ am i := fun w => q (S.inj j i ⟨_, z⟩ ⟨_, h⟩ w)
      refine ⟨a, b, c, f, g.to (by rw [mask_upd h2]; exact Same.refl _) fun o e => ?_⟩
      rw [upd_ne ne]; exact e
  · have w : ∀ k, isOwn ⟨δ.sl.set i (some (.ow d')), δ.n⟩ k → isOwn δ k := fun k ⟨x, hk⟩ => by
      rcases get_set hk with ⟨q, z⟩ | ⟨q, z⟩
      · subst q; exact ⟨_, h⟩
      · exact ⟨_, z⟩
    exact S.inj a b (w a ⟨x, ha⟩) (w b ⟨y, hb⟩) e
  · by_cases q : a = am i
    · subst q; rw [upd_same]; simp
    · rw [upd_ne q]; exact S.al a ha
  · have ne : b ≠ am i := fun z => by subst z; rw [h4] at hb; cases hb
    rw [upd_ne ne]; exact S.base b u hb k
  · refine G.frame _ _ _ (fun a ha u e => ?_) S.di
    have ne : a ≠ am i := fun z => h3 (z ▸ S.dks a ha)
    rw [upd_ne ne]; exact e
/-- leant on again: an own list is given away -/
theorem SR.free {i : Nat} (S : SR K G E am M σ δ H) (h : δ.sl[i]? = some (some (.ow d))) : ∃ M', (∀ a ∈ M', a ∈ M) ∧ SR K G E am M' σ ⟨δ.sl.set i (some (.sh d)), δ.n⟩ H := by
  obtain ⟨h1, h2, h3, h4, h5⟩ := S.ow i d h
  classical
  have sub : ∀ a ∈ M.filter (fun a => decide (a ≠ am i)), a ∈ M := fun a ha => (List.mem_filter.mp ha).1
  have ins : ∀ a ∈ M, a ≠ am i → a ∈ M.filter (fun a => decide (a ≠ am i)) := fun a ha q => List.mem_filter.mpr ⟨ha, decide_eq_true q⟩
  have le : Same (L3.mask M H) (L3.mask (M.filter fun a => decide (a ≠ am i)) H) := mask_sub sub
  have out : am i ∉ M.filter (fun a => decide (a ≠ am i)) := fun z => of_decide_eq_true (List.mem_filter.mp z).2 rfl
  have own : ∀ k, isOwn ⟨δ.sl.set i (some (.sh d)), δ.n⟩ k → isOwn δ k := fun k ⟨x, hk⟩ => by
    rcases get_set hk with ⟨q, z⟩ | ⟨q, z⟩
    · injection z with z; cases z
    · exact ⟨_, z⟩
  refine ⟨M.filter fun a => decide (a ≠ am i), sub, by simp [S.len], fun j e hj => ?_, fun j e hj => ?_, fun a b ha hb e => S.inj a b (own a ha) (own b hb) e, fun a ha => ?_, S.dks, fun a ha => S.al a (sub a ha), S.base, S.di, fun p hp => (S.gh p hp).mono le⟩
  · rcases get_set hj with ⟨q, z⟩ | ⟨q, z⟩
    · subst q
      injection z with z; injection z with z
      subst z
      refine ⟨_, h1, h5.rep le fun o e => ?_⟩
      rw [mask_out out]; exact e
    · obtain ⟨v, a, b⟩ := S.sh j e z
      exact ⟨v, a, b.mono le⟩
  · rcases get_set hj with ⟨q, z⟩ | ⟨q, z⟩
    · injection z with z; cases z
    · obtain ⟨a, b, c, f, g⟩ := S.ow j e z
      have ne : am j ≠ am i := fun w => q (S.inj j i ⟨_, z⟩ ⟨_, h⟩ w)
      exact ⟨a, ins _ b ne, c, f, g.to le fun o e => e⟩
  · exact ins a (S.ads a ha) fun z => h3 (z ▸ ha)
end L3
namespace L3
open PySem L2
/-- a value that may be kept; a new list (dict) that nothing holds; an own one that is only looked at -/
inductive RD where
  | sh (d : D) | fr (d : D) | bo (d : D)
def RD.d : RD → D
  | .sh d => d
  | .fr d => d
  | .bo d => d
@[simp] theorem RD.d_0  (d : D) : RD.d (RD.sh d) = (d) := rfl
@[simp] theorem RD.d_1  (d : D) : RD.d (RD.fr d) = (d) := rfl
@[simp] theorem RD.d_2  (d : D) : RD.d (RD.bo d) = (d) := rfl
def RD.bor : RD → Prop
  | .bo _ => True
  | _ => False
@[simp] theorem RD.bor_0 (d : D) : RD.bor (RD.bo d) = True := rfl
@[simp] theorem RD.bor_sh (d : D) : RD.bor (.sh d) = False := rfl
@[simp] theorem RD.bor_fr (d : D) : RD.bor (.fr d) = False := rfl
abbrev WE := St3 → (RD → St3 → Prop) → Prop
abbrev WT := St3 → (Bool → St3 → Prop) → Prop
abbrev WA := St3 → (List RD → St3 → Prop) → Prop
structure Ends3 where
  nx : St3 → Prop
  rt : D → Nat → Prop
  bk : St3 → Prop
  ct : St3 → Prop
abbrev WS := Ends3 → St3 → Prop
section
variable {K : PySem.W.Frag} {G : Gx} {H H' H1 H2 H3 : Hp} {v x y : V} {d e : D} {M M' : List Addr} {E : Ent} {am : Nat → Addr} {σ : L2.St} {δ δ' δ1 δ2 δ3 : St3}
/-- readable now -/
def RB (K : PySem.W.Frag) (G : Gx) (M : List Addr) (H : Hp) (v : V) (d : D) : Prop := Rep K G (mask M H) v d ∨ ∃ p, v = .ref p ∧ OwnAt K G M H p d
theorem RB.full (h : RB K G M H v d) : Rep K G H v d := by
  rcases h with h | ⟨p, rfl, h⟩
  · exact h.mono mask_le
  · exact h.rep mask_le fun _ e => e
theorem RB.lst {ds : List D} (h : RB K G M H v (.lst ds)) : ∃ p xs, v = .ref p ∧ H p = some (.lst xs) ∧ RepAll K G (mask M H) xs ds := by
  rcases h with ⟨p, xs, e, q, r⟩ | ⟨p, e, xs, q, r⟩
  · exact ⟨p, xs, e, mask_le _ _ q, r⟩
  · exact ⟨p, xs, e, q, r⟩
theorem RB.tup {ds : List D} (h : RB K G M H v (.tup ds)) : ∃ p xs, v = .ref p ∧ SqT K H p xs ∧ RepAll K G (mask M H) xs ds := by
  rcases h with ⟨p, xs, e, q, r⟩ | ⟨p, e, q⟩
  · exact ⟨p, xs, e, same_t mask_le q, r⟩
  · exact q.elim
theorem RB.dct {ks : List Key} {ds : List D} (h : RB K G M H v (.dct ks ds)) : ∃ p xs, v = .ref p ∧ H p = some (.dK (ks.zip xs)) ∧ ks.length = xs.length ∧ RepAll K G (mask M H) xs ds := by
  rcases h with ⟨p, xs, e, q, l, r⟩ | ⟨p, e, xs, q, l, r⟩
  · exact ⟨p, xs, e, mask_le _ _ q, l, r⟩
  · exact ⟨p, xs, e, q, l, r⟩
theorem RB.int {i : Int} (h : RB K G M H v (.int i)) : v = .int i := h.full
theorem RB.bl {i : Bool} (h : RB K G M H v (.bl i)) : v = .bl i := h.full
theorem RB.str {i : Str} (h : RB K G M H v (.str i)) : v = .str i := h.full
theorem RB.non (h : RB K G M H v .non) : v = .non := h.full
/-- a result that is kept through what follows -/
def RK (K : PySem.W.Frag) (G : Gx) (am : Nat → Addr) (M : List Addr) (δ : St3) (H : Hp) (v : V) : RD → Prop
  | .sh d => Rep K G (mask M H) v d
  | .fr d => Rep K G (mask M H) v d
  | .bo d => ∃ i : Nat, δ.sl[i]? = some (some (SV.ow d)) ∧ v = .ref (am i)
def RV (K : PySem.W.Frag) (G : Gx) (E : Ent) (am : Nat → Addr) (M : List Addr) (σ : L2.St) (δ : St3) (H : Hp) (v : V) : RD → Prop
  | .sh d => Rep K G (mask M H) v d
  | .fr d => ∃ p, v = .ref p ∧ p ∉ M ∧ E.H0 p = none ∧ OwnAt K G (p :: M) H p d ∧ SR K G E am (p :: M) σ δ H
  | .bo d => ∃ i : Nat, δ.sl[i]? = some (some (SV.ow d)) ∧ v = .ref (am i)
theorem RV.k {r : RD} (h : RV K G E am M σ δ H v r) : RK K G am M δ H v r := by
  cases r with
  | sh d => exact h
  | fr d =>
    obtain ⟨p, rfl, hp, _, o, _⟩ := h
    exact o.rep (mask_sub fun a h => List.mem_cons_of_mem _ h) fun o e => by rw [mask_out hp]; exact e
  | bo d => exact h
theorem RK.rb {r : RD} (S : SR K G E am M σ δ H) (h : RK K G am M δ H v r) : RB K G M H v r.d := by
  cases r with
  | sh d => exact .inl h
  | fr d => exact .inl h
  | bo d => obtain ⟨i, h1, rfl⟩ := h; exact .inr ⟨_, rfl, (S.ow i d h1).2.2.2.2⟩
theorem RK.rep {r : RD} (h : RK K G am M δ H v r) (k : ¬ r.bor) : Rep K G (mask M H) v r.d := by
  cases r with
  | sh d => exact h
  | fr d => exact h
  | bo d => exact (k trivial).elim
theorem RK.later {r : RD} (S : SR K G E am M σ δ1 H1) (h : RK K G am M δ1 H1 v r) (e : Ext G am δ1 H1 H2) (k : r.bor → δ2.sl = δ1.sl) : RK K G am M δ2 H2 v r := by
  cases r with
  | sh d => exact Rep.mono (S.mask e) d h
  | fr d => exact Rep.mono (S.mask e) d h
  | bo d => obtain ⟨i, h1, e1⟩ := h; exact ⟨i, by rw [k trivial]; exact h1, e1⟩
/-- a new value, by an operation that only lays new things -/
def RN (K : PySem.W.Frag) (G : Gx) (M : List Addr) (H H' : Hp) (v : V) : RD → Prop
  | .sh d => Rep K G (mask M H') v d
  | .fr d => ∃ p, v = .ref p ∧ H p = none ∧ OwnAt K G (p :: M) H' p d
  | .bo _ => False
theorem RN.rv {r : RD} (S : SR K G E am M σ δ H) (e : Same H H') (h : RN K G M H H' v r) : RV K G E am M σ δ H' v r := by
  cases r with
  | sh d => exact h
  | bo d => exact h.elim
  | fr d =>
    obtain ⟨p, rfl, hp, o⟩ := h
    refine ⟨p, rfl, fun z => S.al p z hp, ?_, o, S.more hp e o.al⟩
    cases q : E.H0 p with
    | none => rfl
    | some u =>
      by_cases k : p ∈ G.dk
      · exact (S.al p (S.ads p (S.dks p k)) hp).elim
      · rw [S.base p u q k] at hp; cases hp
end

def SimE (K : PySem.W.Frag) (G : Gx) (E : Ent) (te : TE) (w : WE) : Prop := ∀ (am : Nat → Addr) (M : List Addr) (σ : L2.St) (δ : St3) (H : Hp), SR K G E am M σ δ H → ∀ Qd : RD → St3 → Prop, w δ Qd → ∀ Q : VK,
  (∀ (v : V) (r : RD) (δ' : St3) (H' : Hp), SR K G E am M σ δ' H' → Ext G am δ H H' → (∀ i, isOwn δ' i → isOwn δ i) → RV K G E am M σ δ' H' v r → Qd r δ' → Q v H') → te σ H Q
def SimT (K : PySem.W.Frag) (G : Gx) (E : Ent) (tt : TT) (w : WT) : Prop := ∀ (am : Nat → Addr) (M : List Addr) (σ : L2.St) (δ : St3) (H : Hp), SR K G E am M σ δ H → ∀ Qd : Bool → St3 → Prop, w δ Qd → ∀ Q : Bool → Hp → Prop,
  (∀ (b : Bool) (δ' : St3) (H' : Hp), SR K G E am M σ δ' H' → Ext G am δ H H' → (∀ i, isOwn δ' i → isOwn δ i) → Qd b δ' → Q b H') → tt σ H Q
inductive RKs (K : PySem.W.Frag) (G : Gx) (am : Nat → Addr) (M : List Addr) (δ : St3) (H : Hp) : List V → List RD → Prop
  | nil : RKs K G am M δ H [] []
  | cons {v : V} {vs : List V} {r : RD} {rs : List RD} : RK K G am M δ H v r → RKs K G am M δ H vs rs → RKs K G am M δ H (v :: vs) (r :: rs)
def SimA (K : PySem.W.Frag) (G : Gx) (E : Ent) (ta : TA) (w : WA) : Prop := ∀ (am : Nat → Addr) (M : List Addr) (σ : L2.St) (δ : St3) (H : Hp), SR K G E am M σ δ H → ∀ Qd : List RD → St3 → Prop, w δ Qd → ∀ Q : List V → Hp → Prop,
  (∀ (vs : List V) (rs : List RD) (δ' : St3) (H' : Hp), SR K G E am M σ δ' H' → Ext G am δ H H' → (∀ i, isOwn δ' i → isOwn δ i) → RKs K G am M δ' H' vs rs → Qd rs δ' → Q vs H') → ta σ H Q
structure EndsR (K : PySem.W.Frag) (G : Gx) (E : Ent) (D3 : Ends3) (De : L2.Ends) : Prop where
  nx : ∀ (am : Nat → Addr) (M : List Addr) (σ : L2.St) (δ : St3) (H : Hp), SR K G E am M σ δ H → D3.nx δ → De.nx σ H
  bk : ∀ (am : Nat → Addr) (M : List Addr) (σ : L2.St) (δ : St3) (H : Hp), SR K G E am M σ δ H → D3.bk δ → De.bk σ H
  ct : ∀ (am : Nat → Addr) (M : List Addr) (σ : L2.St) (δ : St3) (H : Hp), SR K G E am M σ δ H → D3.ct δ → De.ct σ H
  rt : ∀ (v : V) (d : D) (n : Nat) (H : Hp), Rep K G (mask E.ads H) v d → (∀ b o, E.H0 b = some o → b ∉ G.dk → H b = some o) → G.DI n H → D3.rt d n → De.rt v H
def SimS (K : PySem.W.Frag) (G : Gx) (ts : TS) (w : WS) : Prop := ∀ (E : Ent) (am : Nat → Addr) (M : List Addr) (σ : L2.St) (δ : St3) (H : Hp), SR K G E am M σ δ H → ∀ D3 : Ends3, w D3 δ → ∀ De : L2.Ends, EndsR K G E D3 De → ts De σ H
structure DE (X : Cx) (G : Gx) (e : Expr) (te : TE) (w : WE) : Prop where
  pe : PE X e te
  sim : ∀ E, SimE X.K G E te w
structure DT (X : Cx) (G : Gx) (e : Expr) (tt : TT) (w : WT) : Prop where
  pt : PT X e tt
  sim : ∀ E, SimT X.K G E tt w
structure DW (X : Cx) (G : Gx) (e : Expr) (tt : TT) (w : WT) : Prop where
  pw : PW X e tt
  sim : ∀ E, SimT X.K G E tt w
structure DA (X : Cx) (G : Gx) (es : List Expr) (ta : TA) (w : WA) : Prop where
  pa : PA X es ta
  sim : ∀ E, SimA X.K G E ta w
structure DS (X : Cx) (G : Gx) (st : Stmt) (ts : TS) (w : WS) : Prop where
  ps : PS X st ts
  sim : SimS X.K G ts w
structure DSs (X : Cx) (G : Gx) (st : List Stmt) (ts : TS) (w : WS) : Prop where
  ps : PSs X st ts
  sim : SimS X.K G ts w

def svRD : SV → RD
  | .sh d => .sh d
  | .ow d => .bo d
@[simp] theorem svRD_0  (d : D) : svRD (.sh d) = (.sh d) := rfl
@[simp] theorem svRD_1  (d : D) : svRD (.ow d) = (.bo d) := rfl
@[simp] def wVar (i : Nat) : WE := fun δ Q => ∃ s, δ.sl[i]? = some (some s) ∧ Q (svRD s) δ
@[simp] def wC (d : D) : WE := fun δ Q => Q (.sh d) δ
section
variable {X : Cx} {G : Gx} {K : PySem.W.Frag} {E : Ent}
theorem sim_var {i : Nat} : SimE K G E (tVar i) (wVar i) := fun am M σ δ H S Qd h Q k => by
  obtain ⟨s, hs, h⟩ := h
  cases s with
  | sh d =>
    obtain ⟨v, e, r⟩ := S.sh i d hs
    exact ⟨v, e, k v (.sh d) δ H S .refl (fun _ z => z) r h⟩
  | ow d =>
    have e := (S.ow i d hs).1
    exact ⟨_, e, k _ (.bo d) δ H S .refl (fun _ z => z) ⟨i, hs, rfl⟩ h⟩
theorem de_var (i : Nat) {x : Str} {pos : Pos} (hN : X.N[i]? = some x := by rfl) (hv : Vis X.env.scope x := by first | exact Or.inl rfl | exact Or.inr (Or.inl rfl) | exact Or.inr (Or.inr rfl)) (hd : (x == ("__debug__" : Str)) = false := by decide)
    (hcd : (x == ("__classdict__" : Str)) = false := by decide) : DE X G (.Name x pos) (tVar i) (wVar i) := ⟨pe_var hN hv hd hcd, fun _ => sim_var⟩
theorem sim_c {v : V} {d : D} (h : ∀ H, Rep K G H v d) : SimE K G E (tC v) (wC d) := fun am M σ δ H S Qd q Q k => k v (.sh d) δ H S .refl (fun _ z => z) (h _) q
theorem de_int {i j pos} : DE X G (.Constant (.int i) j pos) (tC (.int i)) (wC (.int i)) := ⟨pe_int, fun _ => sim_c fun _ => rfl⟩
theorem de_bl {b j pos} : DE X G (.Constant (.bool b) j pos) (tC (.bl b)) (wC (.bl b)) := ⟨pe_bl, fun _ => sim_c fun _ => rfl⟩
theorem de_non {j pos} : DE X G (.Constant .none j pos) (tC .non) (wC .non) := ⟨pe_non, fun _ => sim_c fun _ => rfl⟩
theorem de_str {x j pos} : DE X G (.Constant (.str x) j pos) (tC (.str x)) (wC (.str x)) := ⟨pe_str, fun _ => sim_c fun _ => rfl⟩
end

abbrev F2 := D → D → (RD → Prop) → Prop
def OpS (K : PySem.W.Frag) (G : Gx) (r : R2) (f : F2) : Prop := ∀ (M : List Addr) (H : Hp) (x y : V) (d e : D), (∀ a ∈ M, H a ≠ none) → RB K G M H x d → RB K G M H y e → ∀ Qd : RD → Prop, f d e Qd → ∀ Q : VK,
  (∀ v q H', Same H H' → RN K G M H H' v q → Qd q → Q v H') → r x y H Q
@[simp] def wOp (f : F2) (a b : WE) : WE := fun δ Q => a δ fun x δ1 => b δ1 fun y δ2 => (x.bor → δ2.sl = δ1.sl) ∧ f x.d y.d fun q => Q q δ2
section
variable {X : Cx} {G : Gx} {K : PySem.W.Frag} {E : Ent} {a b c : Expr} {ta tb tc : TE} {wa wb wc : WE} {pos : Pos} {r r' : R2} {f f' : F2}
theorem sim_op (hs : OpS K G r f) (ha : SimE K G E ta wa) (hb : SimE K G E tb wb) : SimE K G E (tOp r ta tb) (wOp f wa wb) := fun am M σ δ H S Qd h Q k => by
  refine ha am M σ δ H S _ h _ fun x rx δ1 H1 S1 e1 o1 v1 h => ?_
  refine hb am M σ δ1 H1 S1 _ h _ fun y ry δ2 H2 S2 e2 o2 v2 h => ?_
  obtain ⟨st, h⟩ := h
  have bx := (v1.k.later S1 e2 st).rb S2
  refine hs M H2 x y _ _ S2.al bx (v2.k.rb S2) _ h _ fun v q H3 sm rn hq => ?_
  exact k v q δ2 H3 (S2.grow sm) ((e1.trans o1 e2).trans (fun i z => o1 i (o2 i z)) (Ext.of (δ := δ2) sm)) (fun i z => o1 i (o2 i z)) (rn.rv S2 sm) hq
theorem de_op {op : Operator} (ho : OpR X (binaryOp op) r) (hs : OpS X.K G r f) (ha : DE X G a ta wa) (hb : DE X G b tb wb) : DE X G (.BinOp a op b pos) (tOp r ta tb) (wOp f wa wb) := ⟨pe_op ho ha.pe hb.pe, fun E => sim_op hs (ha.sim E) (hb.sim E)⟩
theorem de_cmp {op : CmpOp} (ho : OpR X (compareOp op) r) (hs : OpS X.K G r f) (ha : DE X G a ta wa) (hb : DE X G b tb wb) (hm : behindInMarks op b = false := by first | exact nomark _ | rfl) : DE X G (.Compare a [op] [b] pos) (tOp r ta tb) (wOp f wa wb) :=
  ⟨pe_cmpR ho ha.pe hb.pe hm, fun E => sim_op hs (ha.sim E) (hb.sim E)⟩
def wTest (w : WE) : WT := fun δ Q => w δ fun r δ1 => ∃ k, r.d = .bl k ∧ Q k δ1
theorem rv_bl {am : Nat → Addr} {M : List Addr} {σ : L2.St} {δ : St3} {H : Hp} {v : V} {q : RD} {k : Bool} (S : SR K G E am M σ δ H) (h : RV K G E am M σ δ H v q) (e : q.d = .bl k) : v = .bl k := by
  have := h.k.rb S
  rw [e] at this
  exact this.bl
theorem sim_test {te : TE} {w : WE} (h : SimE K G E te w) : SimT K G E (tTest te) (wTest w) := fun am M σ δ H S Qd q Q k =>
  h am M σ δ H S _ q _ fun v r δ' H' S' e o rv ⟨b, e1, hq⟩ => ⟨b, rv_bl S' rv e1, k b δ' H' S' e o hq⟩
theorem dt_cmp {op : CmpOp} (ho : OpR X (compareOp op) r) (hs : OpS X.K G r f) (ha : DE X G a ta wa) (hb : DE X G b tb wb) (hm : behindInMarks op b = false := by first | exact nomark _ | rfl) : DT X G (.Compare a [op] [b] pos) (tTest (tOp r ta tb)) (wTest (wOp f wa wb)) :=
  ⟨pt_cmpR ho ha.pe hb.pe hm, fun E => sim_test (sim_op hs (ha.sim E) (hb.sim E))⟩
theorem dt_val {e : Expr} {t : TE} {w : WE} (h : DE X G e t w) (he : ∀ whole, isTrue e X.env whole = (do let v ← whole; standAt e.pos; holding [v] (truthy v)) := by intro _; rfl) : DT X G e (tB t) (wTest w) := ⟨pt_val h.pe he, fun E => sim_test (h.sim E)⟩
/-- a < b < c -/
def wChain (f f' : F2) (a b c : WE) : WE := fun δ Q => a δ fun x δ1 => b δ1 fun y δ2 => (x.bor → δ2.sl = δ1.sl) ∧ f x.d y.d fun q => ∃ k, q.d = .bl k ∧ (k = true → c δ2 fun z δ3 => (y.bor → δ3.sl = δ2.sl) ∧ f' y.d z.d fun q' => Q q' δ3) ∧ (k = false → Q (.sh (.bl false)) δ2)
theorem sim_chain (hs : OpS K G r f) (hs' : OpS K G r' f') (ha : SimE K G E ta wa) (hb : SimE K G E tb wb) (hc : SimE K G E tc wc) : SimE K G E (tChain r r' ta tb tc) (wChain f f' wa wb wc) := fun am M σ δ H S Qd h Q k => by
  refine ha am M σ δ H S _ h _ fun x rx δ1 H1 S1 e1 o1 v1 h => ?_
  refine hb am M σ δ1 H1 S1 _ h _ fun y ry δ2 H2 S2 e2 o2 v2 h => ?_
  obtain ⟨st, h⟩ := h
  refine hs M H2 x y _ _ S2.al ((v1.k.later S1 e2 st).rb S2) (v2.k.rb S2) _ h _ fun v q H3 sm rn hq => ?_
  obtain ⟨b, e, hq⟩ := hq
  have S3 := S2.grow sm
  have ee : Ext G am δ H H3 := (e1.trans o1 e2).trans (fun i z => o1 i (o2 i z)) (Ext.of (δ := δ2) sm)
  have oo : ∀ i, isOwn δ2 i → isOwn δ i := fun i z => o1 i (o2 i z)
  refine ⟨b, rv_bl S3 (rn.rv S2 sm) e, ?_⟩
  cases b with
  | false =>
    rw [if_neg Bool.false_ne_true]
    exact k _ (.sh (.bl false)) δ2 H3 S3 ee oo rfl (hq.2 rfl)
  | true =>
    rw [if_pos rfl]
    refine hc am M σ δ2 H3 S3 _ (hq.1 rfl) _ fun z rz δ3 H4 S4 e4 o4 v4 h => ?_
    obtain ⟨st', h⟩ := h
    have vy : RK K G am M δ2 H3 y ry := v2.k.later S2 (Ext.of sm) fun _ => rfl
    refine hs' M H4 y z _ _ S4.al ((vy.later S3 e4 st').rb S4) (v4.k.rb S4) _ h _ fun v q H5 sm5 rn5 hq5 => ?_
    exact k v q δ3 H5 (S4.grow sm5) ((ee.trans oo e4).trans (fun i z => oo i (o4 i z)) (Ext.of (δ := δ3) sm5)) (fun i z => oo i (o4 i z)) (rn5.rv S4 sm5) hq5
theorem de_chain {op op' : CmpOp} (ho : OpR X (compareOp op) r) (hs : OpS X.K G r f) (ho' : OpR X (compareOp op') r') (hs' : OpS X.K G r' f') (ha : DE X G a ta wa) (hb : DE X G b tb wb) (hc : DE X G c tc wc)
    (hm : lastMarks [op, op'] [b, c] = false := by with_unfolding_all rfl) : DE X G (.Compare a [op, op'] [b, c] pos) (tChain r r' ta tb tc) (wChain f f' wa wb wc) := ⟨pe_chain ho ho' ha.pe hb.pe hc.pe hm, fun E => sim_chain hs hs' (ha.sim E) (hb.sim E) (hc.sim E)⟩
theorem dt_chain {op op' : CmpOp} (ho : OpR X (compareOp op) r) (hs : OpS X.K G r f) (ho' : OpR X (compareOp op') r') (hs' : OpS X.K G r' f') (ha : DE X G a ta wa) (hb : DE X G b tb wb) (hc : DE X G c tc wc)
    (hm : lastMarks [op, op'] [b, c] = false := by with_unfolding_all rfl) : DT X G (.Compare a [op, op'] [b, c] pos) (tTest (tChain r r' ta tb tc)) (wTest (wChain f f' wa wb wc)) := ⟨pt_chain ho ho' ha.pe hb.pe hc.pe hm, fun E => sim_test (sim_chain hs hs' (ha.sim E) (hb.sim E) (hc.sim E))⟩

abbrev F1 := D → (RD → Prop) → Prop
def UnS (K : PySem.W.Frag) (G : Gx) (r : V → Hp → VK → Prop) (f : F1) : Prop := ∀ (M : List Addr) (H : Hp) (x : V) (d : D), (∀ a ∈ M, H a ≠ none) → RB K G M H x d → ∀ Qd : RD → Prop, f d Qd → ∀ Q : VK,
  (∀ v q H', Same H H' → RN K G M H H' v q → Qd q → Q v H') → r x H Q
@[simp] def wUn (f : F1) (a : WE) : WE := fun δ Q => a δ fun x δ1 => f x.d fun q => Q q δ1
theorem sim_un {ru : V → Hp → VK → Prop} {fu : F1} (hs : UnS K G ru fu) (ha : SimE K G E ta wa) : SimE K G E (tUn ru ta) (wUn fu wa) := fun am M σ δ H S Qd h Q k => by
  refine ha am M σ δ H S _ h _ fun x rx δ1 H1 S1 e1 o1 v1 h => ?_
  exact hs M H1 x _ S1.al (v1.k.rb S1) _ h _ fun v q H3 sm rn hq => k v q δ1 H3 (S1.grow sm) (e1.trans o1 (Ext.of (δ := δ1) sm)) o1 (rn.rv S1 sm) hq
theorem de_un {op : UnaryOp} {ru : V → Hp → VK → Prop} {fu : F1} (ho : UnR X (unaryOp op) ru) (hs : UnS X.K G ru fu) (ha : DE X G a ta wa) : DE X G (.UnaryOp op a pos) (tUn ru ta) (wUn fu wa) := ⟨pe_un ho ha.pe, fun E => sim_un hs (ha.sim E)⟩
variable {t u : TT} {wt wu : WT} {rest : List Expr}
@[simp] def wAnd (t u : WT) : WT := fun δ Q => t δ fun b δ1 => (b = true → u δ1 Q) ∧ (b = false → Q false δ1)
@[simp] def wOr (t u : WT) : WT := fun δ Q => t δ fun b δ1 => (b = false → u δ1 Q) ∧ (b = true → Q true δ1)
@[simp] def wNot (t : WT) : WT := fun δ Q => t δ fun b δ1 => Q (!b) δ1
theorem sim_and (h1 : SimT K G E t wt) (h2 : SimT K G E u wu) : SimT K G E (tAnd t u) (wAnd wt wu) := fun am M σ δ H S Qd h Q k => by
  refine h1 am M σ δ H S _ h _ fun b δ1 H1 S1 e1 o1 h => ?_
  cases b with
  | true =>
    rw [if_pos rfl]
    exact h2 am M σ δ1 H1 S1 _ (h.1 rfl) _ fun b δ2 H2 S2 e2 o2 h => k b δ2 H2 S2 (e1.trans o1 e2) (fun i z => o1 i (o2 i z)) h
  | false =>
    rw [if_neg Bool.false_ne_true]
    exact k _ δ1 H1 S1 e1 o1 (h.2 rfl)
theorem sim_or (h1 : SimT K G E t wt) (h2 : SimT K G E u wu) : SimT K G E (tOr t u) (wOr wt wu) := fun am M σ δ H S Qd h Q k => by
  refine h1 am M σ δ H S _ h _ fun b δ1 H1 S1 e1 o1 h => ?_
  cases b with
  | false =>
    rw [if_neg Bool.false_ne_true]
    exact h2 am M σ δ1 H1 S1 _ (h.1 rfl) _ fun b δ2 H2 S2 e2 o2 h => k b δ2 H2 S2 (e1.trans o1 e2) (fun i z => o1 i (o2 i z)) h
  | true =>
    rw [if_pos rfl]
    exact k _ δ1 H1 S1 e1 o1 (h.2 rfl)
theorem sim_not (h1 : SimT K G E t wt) : SimT K G E (tNot t) (wNot wt) := fun am M σ δ H S Qd h Q k =>
  h1 am M σ δ H S _ h _ fun b δ1 H1 S1 e1 o1 h => k _ δ1 H1 S1 e1 o1 h
theorem dw_and1 (ha : DT X G a t wt) : DW X G (.BoolOp .And [a] pos) t wt := ⟨pw_and1 ha.pt, ha.sim⟩
theorem dw_or1 (ha : DT X G a t wt) : DW X G (.BoolOp .Or [a] pos) t wt := ⟨pw_or1 ha.pt, ha.sim⟩
theorem dw_and (ha : DT X G a t wt) (hb : DW X G (.BoolOp .And (b :: rest) pos) u wu) : DW X G (.BoolOp .And (a :: b :: rest) pos) (tAnd t u) (wAnd wt wu) := ⟨pw_and ha.pt hb.pw, fun E => sim_and (ha.sim E) (hb.sim E)⟩
theorem dw_or (ha : DT X G a t wt) (hb : DW X G (.BoolOp .Or (b :: rest) pos) u wu) : DW X G (.BoolOp .Or (a :: b :: rest) pos) (tOr t u) (wOr wt wu) := ⟨pw_or ha.pt hb.pw, fun E => sim_or (ha.sim E) (hb.sim E)⟩
theorem DW.dt {e : Expr} (h : DW X G e t wt) : DT X G e t wt := ⟨h.pw.pt, h.sim⟩
theorem dt_not (ha : DT X G a t wt) : DT X G (.UnaryOp .Not a pos) (tNot t) (wNot wt) := ⟨pt_not ha.pt, fun E => sim_not (ha.sim E)⟩
/-- as values -/
def wAndV (a b : WE) : WE := fun δ Q => a δ fun x δ1 => ∃ k, x.d = .bl k ∧ (k = true → b δ1 Q) ∧ (k = false → Q (.sh (.bl false)) δ1)
def wOrV (a b : WE) : WE := fun δ Q => a δ fun x δ1 => ∃ k, x.d = .bl k ∧ (k = false → b δ1 Q) ∧ (k = true → Q (.sh (.bl true)) δ1)
def wNotV (a : WE) : WE := fun δ Q => a δ fun x δ1 => ∃ k, x.d = .bl k ∧ Q (.sh (.bl (!k))) δ1
theorem RV.weak {am : Nat → Addr} {M : List Addr} {σ : L2.St} {δ : St3} {H : Hp} {v : V} {q : RD} (h : RV K G E am M σ δ H v q) : RV K G E am M σ δ H v q := h
theorem sim_andV (ha : SimE K G E ta wa) (hb : SimE K G E tb wb) : SimE K G E (tAndV ta tb) (wAndV wa wb) := fun am M σ δ H S Qd h Q k => by
  refine ha am M σ δ H S _ h _ fun x rx δ1 H1 S1 e1 o1 v1 ⟨b, eb, h⟩ => ⟨b, rv_bl S1 v1 eb, ?_⟩
  cases b with
  | true =>
    rw [if_pos rfl]
    exact hb am M σ δ1 H1 S1 _ (h.1 rfl) _ fun v r δ2 H2 S2 e2 o2 v2 h => k v r δ2 H2 S2 (e1.trans o1 e2) (fun i z => o1 i (o2 i z)) v2 h
  | false =>
    rw [if_neg Bool.false_ne_true]
    exact k _ (.sh (.bl false)) δ1 H1 S1 e1 o1 rfl (h.2 rfl)
theorem sim_orV (ha : SimE K G E ta wa) (hb : SimE K G E tb wb) : SimE K G E (tOrV ta tb) (wOrV wa wb) := fun am M σ δ H S Qd h Q k => by
  refine ha am M σ δ H S _ h _ fun x rx δ1 H1 S1 e1 o1 v1 ⟨b, eb, h⟩ => ⟨b, rv_bl S1 v1 eb, ?_⟩
  cases b with
  | false =>
    rw [if_neg Bool.false_ne_true]
    exact hb am M σ δ1 H1 S1 _ (h.1 rfl) _ fun v r δ2 H2 S2 e2 o2 v2 h => k v r δ2 H2 S2 (e1.trans o1 e2) (fun i z => o1 i (o2 i z)) v2 h
  | true =>
    rw [if_pos rfl]
    exact k _ (.sh (.bl true)) δ1 H1 S1 e1 o1 rfl (h.2 rfl)
theorem sim_notV (ha : SimE K G E ta wa) : SimE K G E (tNotV ta) (wNotV wa) := fun am M σ δ H S Qd h Q k =>
  ha am M σ δ H S _ h _ fun x rx δ1 H1 S1 e1 o1 v1 ⟨b, eb, h⟩ => ⟨b, rv_bl S1 v1 eb, k _ (.sh (.bl (!b))) δ1 H1 S1 e1 o1 rfl h⟩
theorem de_one {op} (h : DE X G a ta wa) : DE X G (.BoolOp op [a] pos) ta wa := ⟨pe_one h.pe, h.sim⟩
theorem de_and (ha : DE X G a ta wa) (hb : DE X G (.BoolOp .And (b :: rest) pos) tb wb) : DE X G (.BoolOp .And (a :: b :: rest) pos) (tAndV ta tb) (wAndV wa wb) := ⟨pe_and ha.pe hb.pe, fun E => sim_andV (ha.sim E) (hb.sim E)⟩
theorem de_or (ha : DE X G a ta wa) (hb : DE X G (.BoolOp .Or (b :: rest) pos) tb wb) : DE X G (.BoolOp .Or (a :: b :: rest) pos) (tOrV ta tb) (wOrV wa wb) := ⟨pe_or ha.pe hb.pe, fun E => sim_orV (ha.sim E) (hb.sim E)⟩
theorem de_not (ha : DE X G a ta wa) : DE X G (.UnaryOp .Not a pos) (tNotV ta) (wNotV wa) := ⟨pe_not ha.pe, fun E => sim_notV (ha.sim E)⟩
@[simp] def wIf (t : WT) (a b : WE) : WE := fun δ Q => t δ fun k δ1 => (k = true → a δ1 Q) ∧ (k = false → b δ1 Q)
theorem sim_if (ht : SimT K G E t wt) (ha : SimE K G E ta wa) (hb : SimE K G E tb wb) : SimE K G E (tIf t ta tb) (wIf wt wa wb) := fun am M σ δ H S Qd h Q k => by
  refine ht am M σ δ H S _ h _ fun b δ1 H1 S1 e1 o1 h => ?_
  cases b with
  | true =>
    rw [if_pos rfl]
    exact ha am M σ δ1 H1 S1 _ (h.1 rfl) _ fun v r δ2 H2 S2 e2 o2 v2 h => k v r δ2 H2 S2 (e1.trans o1 e2) (fun i z => o1 i (o2 i z)) v2 h
  | false =>
    rw [if_neg Bool.false_ne_true]
    exact hb am M σ δ1 H1 S1 _ (h.2 rfl) _ fun v r δ2 H2 S2 e2 o2 v2 h => k v r δ2 H2 S2 (e1.trans o1 e2) (fun i z => o1 i (o2 i z)) v2 h
theorem de_if (hc : DT X G c t wt) (ha : DE X G a ta wa) (hb : DE X G b tb wb) : DE X G (.IfExp c a b pos) (tIf t ta tb) (wIf wt wa wb) := ⟨pe_ifExp hc.pt ha.pe hb.pe, fun E => sim_if (hc.sim E) (ha.sim E) (hb.sim E)⟩

@[simp] def wNil : WA := fun δ Q => Q [] δ
@[simp] def wCons (a : WE) (t : WA) : WA := fun δ Q => a δ fun x δ1 => t δ1 fun xs δ2 => (x.bor → δ2.sl = δ1.sl) ∧ Q (x :: xs) δ2
variable {es : List Expr} {tA : TA} {wA : WA}
theorem sim_nil : SimA K G E tNil wNil := fun am M σ δ H S Qd h Q k => k [] [] δ H S .refl (fun _ z => z) .nil h
theorem sim_cons (ha : SimE K G E ta wa) (hr : SimA K G E tA wA) : SimA K G E (tCons ta tA) (wCons wa wA) := fun am M σ δ H S Qd h Q k => by
  refine ha am M σ δ H S _ h _ fun x rx δ1 H1 S1 e1 o1 v1 h => ?_
  refine hr am M σ δ1 H1 S1 _ h _ fun xs rs δ2 H2 S2 e2 o2 v2 ⟨st, h⟩ => ?_
  exact k _ _ δ2 H2 S2 (e1.trans o1 e2) (fun i z => o1 i (o2 i z)) (.cons (v1.k.later S1 e2 st) v2) h
theorem da_nil : DA X G [] tNil wNil := ⟨pa_nil, fun _ => sim_nil⟩
theorem da_cons (ha : DE X G a ta wa) (hr : DA X G es tA wA) (hs : starEach (a :: es) X.env = (false, eval a X.env) :: starEach es X.env := by rfl) : DA X G (a :: es) (tCons ta tA) (wCons wa wA) := ⟨pa_cons ha.pe hr.pa hs, fun E => sim_cons (ha.sim E) (hr.sim E)⟩
/-- all may be kept -/
@[simp] def keeps : List RD → Prop
  | [] => True
  | r :: rs => ¬ r.bor ∧ keeps rs
theorem RKs.rep {am : Nat → Addr} {M : List Addr} {δ : St3} {H : Hp} : ∀ {vs : List V} {rs : List RD}, RKs K G am M δ H vs rs → keeps rs → RepAll K G (mask M H) vs (rs.map RD.d)
  | _, _, .nil, _ => rfl
  | _, _, .cons h t, ⟨k, ks⟩ => ⟨_, _, rfl, h.rep k, t.rep ks⟩
theorem RKs.length {am : Nat → Addr} {M : List Addr} {δ : St3} {H : Hp} : ∀ {vs : List V} {rs : List RD}, RKs K G am M δ H vs rs → vs.length = rs.length
  | _, _, .nil => rfl
  | _, _, .cons _ t => congrArg Nat.succ t.length
inductive RBs (K : PySem.W.Frag) (G : Gx) (M : List Addr) (H : Hp) : List V → List D → Prop
  | nil : RBs K G M H [] []
  | cons {v : V} {vs : List V} {d : D} {ds : List D} : RB K G M H v d → RBs K G M H vs ds → RBs K G M H (v :: vs) (d :: ds)
theorem RKs.rbs {am : Nat → Addr} {M : List Addr} {σ : L2.St} {δ : St3} {H : Hp} (S : SR K G E am M σ δ H) : ∀ {vs : List V} {rs : List RD}, RKs K G am M δ H vs rs → RBs K G M H vs (rs.map RD.d)
  | _, _, .nil => .nil
  | _, _, .cons h t => .cons (h.rb S) (t.rbs S)
@[simp] def wTup (t : WA) : WE := fun δ Q => t δ fun rs δ1 => keeps rs ∧ rs.length ≤ 1000 ∧ Q (.sh (.tup (rs.map RD.d))) δ1
@[simp] def wLst (t : WA) : WE := fun δ Q => t δ fun rs δ1 => keeps rs ∧ rs.length ≤ 1000 ∧ Q (.fr (.lst (rs.map RD.d))) δ1
theorem sz1000 {n : Nat} (h : n ≤ 1000) : n ≤ sizeLine := Nat.le_of_lt (small1000 h)
theorem same_new {H : Hp} {p : Addr} {o : HO} (h : H p = none) : Same H (upd H p o) := fun b x e => by
  rw [upd_ne (ne_of_none e h)]; exact e
theorem sim_tup (h : SimA K G E tA wA) : SimE K G E (tTup tA) (wTup wA) := fun am M σ δ H S Qd q Q k => by
  refine h am M σ δ H S _ q _ fun vs rs δ1 H1 S1 e1 o1 r1 ⟨hk, hl, hq⟩ => ⟨sz1000 (by rw [r1.length]; exact hl), fun p hp => ?_⟩
  have sm := same_new (o := .tup vs) hp
  refine k _ (.sh (.tup (rs.map RD.d))) δ1 _ (S1.grow sm) (e1.trans o1 (Ext.of (δ := δ1) sm)) o1 ⟨p, vs, rfl, SqT.of ?_, (r1.rep hk).mono (mask_mono sm)⟩ hq
  rw [mask_out fun z => S1.al p z hp, upd_same]
theorem sim_lst (h : SimA K G E tA wA) : SimE K G E (tLst tA) (wLst wA) := fun am M σ δ H S Qd q Q k => by
  refine h am M σ δ H S _ q _ fun vs rs δ1 H1 S1 e1 o1 r1 ⟨hk, hl, hq⟩ => ⟨sz1000 (by rw [r1.length]; exact hl), fun p hp => ?_⟩
  have sm := same_new (o := .lst vs) hp
  exact k _ (.fr (.lst (rs.map RD.d))) δ1 _ (S1.grow sm) (e1.trans o1 (Ext.of (δ := δ1) sm)) o1 (RN.rv (r := .fr (.lst (rs.map RD.d))) S1 sm ⟨p, rfl, hp, vs, upd_same, (r1.rep hk).mono (mask_new hp sm)⟩) hq
theorem de_tup {x1} (h : DA X G es tA wA) : DE X G (.Tuple es x1 pos) (tTup tA) (wTup wA) := ⟨pe_tup h.pa, fun E => sim_tup (h.sim E)⟩
theorem de_lst (h : DA X G es tA wA) : DE X G (.List es pos) (tLst tA) (wLst wA) := ⟨pe_lst h.pa, fun E => sim_lst (h.sim E)⟩

abbrev FC := List D → (RD → Prop) → Prop
def CallS (K : PySem.W.Frag) (G : Gx) (r : List V → Hp → VK → Prop) (f : FC) : Prop := ∀ (M : List Addr) (H : Hp) (vs : List V) (ds : List D), (∀ a ∈ M, H a ≠ none) → RBs K G M H vs ds → ∀ Qd : RD → Prop, f ds Qd → ∀ Q : VK,
  (∀ v q H', Same H H' → RN K G M H H' v q → Qd q → Q v H') → r vs H Q
@[simp] def wCB (f : FC) (t : WA) : WE := fun δ Q => t δ fun rs δ1 => f (rs.map RD.d) fun q => Q q δ1
theorem sim_cb {rc : List V → Hp → VK → Prop} {fc : FC} (hs : CallS K G rc fc) (h : SimA K G E tA wA) : SimE K G E (tCB rc tA) (wCB fc wA) := fun am M σ δ H S Qd q Q k => by
  refine h am M σ δ H S _ q _ fun vs rs δ1 H1 S1 e1 o1 r1 hq => ?_
  exact hs M H1 vs _ S1.al (r1.rbs S1) _ hq _ fun v q H3 sm rn hq => k v q δ1 H3 (S1.grow sm) (e1.trans o1 (Ext.of (δ := δ1) sm)) o1 (rn.rv S1 sm) hq
theorem de_callB {id : String} {x : Str} {p : Pos} {rc : List V → Hp → VK → Prop} {fc : FC} (hc : CallR X (.builtin id) rc) (hs : CallS X.K G rc fc) (hg : Gl X x) (hm : X.mg x = none) (hv : bootBuiltins x = some (.builtin id)) (ha : DA X G (a :: es) tA wA) (hn : x ≠ "__name__" := by decide) (hdb : (x == ("__debug__" : Str)) = false := by decide)
    (he : starEach (a :: es) X.env = (false, eval a X.env) :: starEach es X.env := by rfl) (hpl : (backTo pos (starEach es X.env)).any (·.1) = false := by rfl) : DE X G (.Call (.Name x p) (a :: es) [] pos) (tCB rc tA) (wCB fc wA) := ⟨pe_callB hc hg hm hv ha.pa hn hdb he hpl, fun E => sim_cb hs (ha.sim E)⟩
theorem de_callTy {T : String} {x : Str} {p : Pos} {rc : List V → Hp → VK → Prop} {fc : FC} (hc : CallR X (.type T) rc) (hs : CallS X.K G rc fc) (hg : Gl X x) (hm : X.mg x = none) (hv : bootBuiltins x = some (.type T)) (ha : DA X G (a :: es) tA wA) (hn : x ≠ "__name__" := by decide) (hdb : (x == ("__debug__" : Str)) = false := by decide)
    (he : starEach (a :: es) X.env = (false, eval a X.env) :: starEach es X.env := by rfl) (hpl : (backTo pos (starEach es X.env)).any (·.1) = false := by rfl) : DE X G (.Call (.Name x p) (a :: es) [] pos) (tCB rc tA) (wCB fc wA) := ⟨pe_callTy hc hg hm hv ha.pa hn hdb he hpl, fun E => sim_cb hs (ha.sim E)⟩
end
end L3
namespace L3
open PySem L2
@[simp] def wipe3 (sl : List (Option SV)) : List Nat → List (Option SV)
  | [] => sl
  | v :: vs => (wipe3 sl vs).set v none
@[simp] def unwipe (sl0 sl : List (Option SV)) : List Nat → List (Option SV)
  | [] => sl
  | v :: vs => (unwipe sl0 sl vs).set v ((sl0[v]?).getD none)
@[simp] def noOwn (sl : List (Option SV)) : List Nat → Prop
  | [] => True
  | v :: vs => (match sl[v]? with | some (some (.ow _)) => False | _ => True) ∧ noOwn sl vs
theorem noOwn.at {sl : List (Option SV)} : ∀ {vs : List Nat} {v : Nat} {d : D}, noOwn sl vs → v ∈ vs → sl[v]? = some (some (SV.ow d)) → False
  | [], _, _, _, m, _ => by simp at m
  | w :: vs, v, d, ⟨h, t⟩, m, e => by
    rcases List.mem_cons.mp m with q | q
    · subst q; rw [e] at h; exact h
    · exact t.at q e
section
variable {K : PySem.W.Frag} {G : Gx} {H H' H1 H2 H3 : Hp} {v : V} {d : D} {M M' : List Addr} {E : Ent} {am : Nat → Addr} {σ σ' : L2.St} {δ δ' δ1 δ2 : St3}
theorem SR.wiped (S : SR K G E am M σ δ H) : ∀ vs : List Nat, SR K G E am M (wipe σ vs) ⟨wipe3 δ.sl vs, δ.n⟩ H
  | [] => S
  | _ :: vs => (S.wiped vs).set_none
theorem wipe3_own {sl : List (Option SV)} {n : Nat} {i : Nat} : ∀ {vs : List Nat}, isOwn ⟨wipe3 sl vs, n⟩ i → isOwn ⟨sl, n⟩ i
  | [], h => h
  | v :: vs, ⟨d, h⟩ => by
    rcases get_set h with ⟨_, z⟩ | ⟨_, z⟩
    · cases z
    · exact wipe3_own (vs := vs) ⟨d, z⟩
theorem wipe_get {σ : L2.St} {j : Nat} : ∀ {vs : List Nat}, j ∉ vs → (wipe σ vs)[j]? = σ[j]?
  | [], _ => rfl
  | v :: vs, h => by
    have h1 : v ≠ j := fun z => h (z ▸ List.mem_cons_self)
    have h2 : j ∉ vs := fun z => h (List.mem_cons_of_mem _ z)
    show ((wipe σ vs).set v none)[j]? = _
    rw [List.getElem?_set_ne h1, wipe_get h2]
theorem wipe_in {σ : L2.St} {j : Nat} : ∀ {vs : List Nat}, j ∈ vs → (wipe σ vs)[j]? = if j < σ.length then some none else none
  | [], h => by simp at h
  | v :: vs, h => by
    show ((wipe σ vs).set v none)[j]? = _
    by_cases e : v = j
    · subst e
      by_cases l : v < σ.length
      · rw [List.getElem?_set_self (by rw [wipe_length]; exact l), if_pos l]
      · rw [List.getElem?_eq_none (by rw [List.length_set, wipe_length]; omega), if_neg l]
    · rw [List.getElem?_set_ne e]
      exact wipe_in ((List.mem_cons.mp h).resolve_left fun z => e z.symm)
theorem wipe_set {σ : L2.St} {i : Nat} {x : Option V} {vs : List Nat} (h : i ∈ vs) : wipe (σ.set i x) vs = wipe σ vs := by
  apply List.ext_getElem?
  intro j
  by_cases q : j ∈ vs
  · rw [wipe_in q, wipe_in q, List.length_set]
  · rw [wipe_get q, wipe_get q, List.getElem?_set_ne fun z => q (by rw [← z]; exact h)]
theorem wipe_wipe {σ : L2.St} {vs : List Nat} : wipe (wipe σ vs) vs = wipe σ vs := by
  apply List.ext_getElem?
  intro j
  by_cases q : j ∈ vs
  · rw [wipe_in q, wipe_in q, wipe_length]
  · rw [wipe_get q]
theorem unwipe_get {sl0 sl : List (Option SV)} {j : Nat} {x : SV} : ∀ {vs : List Nat}, (unwipe sl0 sl vs)[j]? = some (some x) → (j ∉ vs ∧ sl[j]? = some (some x)) ∨ (j ∈ vs ∧ sl0[j]? = some (some x))
  | [], h => .inl ⟨by simp, h⟩
  | v :: vs, h => by
    rcases get_set h with ⟨e, z⟩ | ⟨e, z⟩
    · subst e
      refine .inr ⟨List.mem_cons_self, ?_⟩
      cases q : sl0[j]? with
      | none => rw [q] at z; cases z
      | some y => rw [q] at z; exact congrArg some z.symm
    · rcases unwipe_get z with ⟨a, b⟩ | ⟨a, b⟩
      · exact .inl ⟨by simp only [List.mem_cons, not_or]; exact ⟨e, a⟩, b⟩
      · exact .inr ⟨List.mem_cons_of_mem _ a, b⟩
theorem unwipe_len {sl0 sl : List (Option SV)} : ∀ {vs : List Nat}, (unwipe sl0 sl vs).length = sl.length
  | [] => rfl
  | _ :: vs => by show ((unwipe sl0 sl vs).set _ _).length = _; rw [List.length_set, unwipe_len]
/-- the forgotten slots are what they were -/
theorem SR.back {vs : List Nat} (S0 : SR K G E am M σ δ1 H1) (S : SR K G E am M' (wipe σ vs) δ2 H2) (hM : ∀ a ∈ M, a ∈ M') (no : noOwn δ1.sl vs) (e : Same (L3.mask M' H1) (L3.mask M' H2)) (r : ∀ (i : Nat) (d : D), δ1.sl[i]? = some (some (SV.sh d)) → ∀ v : V, σ[i]? = some (some v) → Rep K G (L3.mask M' H1) v d) :
    SR K G E am M' σ ⟨unwipe δ1.sl δ2.sl vs, δ2.n⟩ H2 where
  len := by rw [unwipe_len, ← S.len, wipe_length]
  sh := fun j d h => by
    rcases unwipe_get h with ⟨a, b⟩ | ⟨a, b⟩
    · obtain ⟨v, x, y⟩ := S.sh j d b
      rw [wipe_get a] at x
      exact ⟨v, x, y⟩
    · obtain ⟨v, x, y⟩ := S0.sh j d b
      exact ⟨v, x, (r j d b v x).mono e⟩
  ow := fun j d h => by
    rcases unwipe_get h with ⟨a, b⟩ | ⟨a, b⟩
    · obtain ⟨x, y⟩ := S.ow j d b
      rw [wipe_get a] at x
      exact ⟨x, y⟩
    · exact (no.at a b).elim
  inj := fun a b ⟨x, ha⟩ ⟨y, hb⟩ => by
    rcases unwipe_get ha with ⟨_, p⟩ | ⟨p, q⟩
    · rcases unwipe_get hb with ⟨_, p'⟩ | ⟨p', q'⟩
      · exact S.inj a b ⟨x, p⟩ ⟨y, p'⟩
      · exact (no.at p' q').elim
    · exact (no.at p q).elim
  ads := S.ads
  dks := S.dks
  al := S.al
  base := S.base
  di := S.di
  gh := S.gh
end

abbrev WG := D → St3 → (St3 → Prop) → Prop
abbrev WGs := List D → St3 → (St3 → Prop) → Prop
abbrev WI := St3 → (List D → St3 → Prop) → Prop
def SimG (K : PySem.W.Frag) (G : Gx) (us : List Nat) (g : TG) (w : WG) : Prop := ∀ (E : Ent) (am : Nat → Addr) (M : List Addr) (σ : L2.St) (δ : St3) (H : Hp), SR K G E am M σ δ H → ∀ (x : V) (d : D), Rep K G (mask M H) x d → ∀ Qd : St3 → Prop, w d δ Qd → ∀ Q : L2.St → Hp → Prop,
  (∀ (σ' : L2.St) (δ' : St3), SR K G E am M σ' δ' H → (∀ vs : List Nat, (∀ u ∈ us, u ∈ vs) → wipe σ' vs = wipe σ vs) → (∀ i, isOwn δ' i → isOwn δ i) → Qd δ' → Q σ' H) → g x σ H Q
def SimGs (K : PySem.W.Frag) (G : Gx) (us : List Nat) (g : TGs) (w : WGs) : Prop := ∀ (E : Ent) (am : Nat → Addr) (M : List Addr) (σ : L2.St) (δ : St3) (H : Hp), SR K G E am M σ δ H → ∀ (xs : List V) (ds : List D), RepAll K G (mask M H) xs ds → ∀ Qd : St3 → Prop, w ds δ Qd → ∀ Q : L2.St → Hp → Prop,
  (∀ (σ' : L2.St) (δ' : St3), SR K G E am M σ' δ' H → (∀ vs : List Nat, (∀ u ∈ us, u ∈ vs) → wipe σ' vs = wipe σ vs) → (∀ i, isOwn δ' i → isOwn δ i) → Qd δ' → Q σ' H) → g xs σ H Q
structure DG (X : Cx) (G : Gx) (tg : Expr) (us : List Nat) (g : TG) (w : WG) : Prop where
  pg : PG X tg g
  sim : SimG X.K G us g w
structure DGs (X : Cx) (G : Gx) (tgs : List Expr) (us : List Nat) (g : TGs) (w : WGs) : Prop where
  pg : PGs X tgs g
  sim : SimGs X.K G us g w
@[simp] def gN (i : Nat) : WG := fun d δ Q => Q ⟨δ.sl.set i (some (.sh d)), δ.n⟩
@[simp] def gNil3 : WGs := fun ds δ Q => ds = [] ∧ Q δ
@[simp] def gCons3 (g : WG) (t : WGs) : WGs := fun ds δ Q => ∃ d r, ds = d :: r ∧ g d δ fun δ1 => t r δ1 Q
@[simp] def gTup3 (n : Nat) (t : WGs) : WG := fun d δ Q => ∃ ds, d = .tup ds ∧ ds.length = n ∧ t ds δ Q
section
variable {X : Cx} {G : Gx} {K : PySem.W.Frag}
theorem own_set {δ : St3} {i j : Nat} {d : D} (h : isOwn ⟨δ.sl.set i (some (.sh d)), δ.n⟩ j) : isOwn δ j := by
  obtain ⟨e, h⟩ := h
  rcases get_set h with ⟨_, z⟩ | ⟨_, z⟩
  · injection z with z; cases z
  · exact ⟨e, z⟩
theorem sim_gN {i : Nat} : SimG K G [i] (gName i) (gN i) := fun E am M σ δ H S x d r Qd h Q k =>
  k _ _ (S.set_sh r) (fun vs hv => wipe_set (hv i (by simp))) (fun j z => own_set z) h
theorem sim_gNil : SimGs K G [] gNil gNil3 := fun E am M σ δ H S xs ds r Qd ⟨e, h⟩ Q k => by
  subst e
  exact ⟨r, k σ δ S (fun _ _ => rfl) (fun _ z => z) h⟩
theorem sim_gCons {g : TG} {t : TGs} {w : WG} {ws : WGs} {us us' : List Nat} (h1 : SimG K G us g w) (h2 : SimGs K G us' t ws) : SimGs K G (us ++ us') (gCons g t) (gCons3 w ws) := fun E am M σ δ H S xs ds r Qd ⟨d, rs, e, h⟩ Q k => by
  subst e
  obtain ⟨x, xs, rfl, r1, r2⟩ := r
  refine ⟨x, xs, rfl, h1 E am M σ δ H S x d r1 _ h _ fun σ1 δ1 S1 w1 o1 h => ?_⟩
  refine h2 E am M σ1 δ1 H S1 xs rs r2 _ h _ fun σ2 δ2 S2 w2 o2 h => ?_
  exact k σ2 δ2 S2 (fun vs hv => (w2 vs fun u hu => hv u (List.mem_append_right _ hu)).trans (w1 vs fun u hu => hv u (List.mem_append_left _ hu))) (fun i z => o1 i (o2 i z)) h
theorem sim_gTup {n : Nat} {t : TGs} {ws : WGs} {us : List Nat} (h : SimGs K G us t ws) : SimG K G us (gTup K n t) (gTup3 n ws) := fun E am M σ δ H S x d r Qd ⟨ds, e, hl, q⟩ Q k => by
  subst e
  obtain ⟨a, xs, rfl, ht, rs⟩ := r
  exact ⟨a, xs, rfl, same_t mask_le ht, by rw [rs.length]; exact hl, h E am M σ δ H S xs ds rs _ q _ k⟩
theorem dg_name {i : Nat} {x : Str} {pos : Pos} (hN : X.N.Nodup) (hi : X.N[i]? = some x := by rfl) (hx : Loc X.env.scope x := by first | exact Or.inl rfl | exact Or.inr rfl) (hf : X.fn x = true ∨ X.env.scope.names.lookup x = some .local := by first | exact .inl rfl | exact .inr rfl) : DG X G (.Name x pos) [i] (gName i) (gN i) := ⟨pg_name hN hi hx hf, sim_gN⟩
theorem dgs_nil : DGs X G [] [] gNil gNil3 := ⟨pgs_nil, sim_gNil⟩
theorem dgs_cons {e : Expr} {es : List Expr} {g : TG} {t : TGs} {w : WG} {ws : WGs} {us us' : List Nat} (h1 : DG X G e us g w) (h2 : DGs X G es us' t ws) (hs : (assignEach (e :: es) X.env).map (·.2) = assign e X.env :: (assignEach es X.env).map (·.2) := by rfl) : DGs X G (e :: es) (us ++ us') (gCons g t) (gCons3 w ws) := ⟨pgs_cons h1.pg h2.pg hs, sim_gCons h1.sim h2.sim⟩
theorem dg_tup {es : List Expr} {k : Nat} {pos : Pos} {t : TGs} {ws : WGs} {us : List Nat} {n : Nat} (hc : X.calm = true) (h : DGs X G es us t ws) (hn : (assignEach es X.env).length = n := by rfl) (hst : (assignEach es X.env).findIdx? (·.1) = none := by rfl) :
    DG X G (.Tuple es k pos) us (gTup X.K n t) (gTup3 n ws) := ⟨pg_tup hc h.pg hn hst, sim_gTup h.sim⟩
end

/-- an iterator gives just these, as long as the ghosts stand -/
def IterOk (K : PySem.W.Frag) (G : Gx) (gh : List (V × D)) (J : It) (items : List D) : Prop := ∀ (E : Ent) (am : Nat → Addr) (M : List Addr) (σ : L2.St) (δ : St3) (H : Hp), SR K G E am M σ δ H → (∀ p ∈ gh, p ∈ E.gh) →
  (∀ i, items.length ≤ i → J.stop i H) ∧ ∀ (i : Nat) (d : D), items[i]? = some d → J.go i H ∧ ∀ x H', J.yld i H x H' → Same H H' ∧ Rep K G (mask M H') x d
def Ent.add (E : Ent) (l : List (V × D)) : Ent := ⟨E.H0, E.ads, l ++ E.gh⟩
def SimI (K : PySem.W.Frag) (G : Gx) (E : Ent) (ti : TI) (w : WI) : Prop := ∀ (am : Nat → Addr) (M : List Addr) (σ : L2.St) (δ : St3) (H : Hp), SR K G E am M σ δ H → ∀ Rd : List D → St3 → Prop, w δ Rd → ∀ R : It → Hp → Prop,
  (∀ (J : It) (items : List D) (gh : List (V × D)) (δ' : St3) (H' : Hp), SR K G (E.add gh) am M σ δ' H' → Ext G am δ H H' → (∀ i, isOwn δ' i → isOwn δ i) → IterOk K G gh J items → Rd items δ' → R J H') → ti σ H R
structure DI (X : Cx) (G : Gx) (tg iter : Expr) (ti : TI) (w : WI) : Prop where
  pi : PI X tg iter ti
  sim : ∀ E, SimI X.K G E ti w
@[simp] def wItems (f : D → Option (List D)) (a : WE) : WI := fun δ R => a δ fun r δ1 => ¬ r.bor ∧ ∃ ds, f r.d = some ds ∧ R ds δ1
def asL : D → Option (List D)
  | .lst ds => some ds
  | _ => none
def asT : D → Option (List D)
  | .tup ds => some ds
  | _ => none
section
variable {X : Cx} {G : Gx} {K : PySem.W.Frag} {E : Ent} {tg e : Expr} {te : TE} {we : WE}
theorem SR.drop {gh : List (V × D)} {am : Nat → Addr} {M : List Addr} {σ : L2.St} {δ : St3} {H : Hp} (S : SR K G (E.add gh) am M σ δ H) : SR K G E am M σ δ H := S.ungh fun p h => List.mem_append_right _ h
theorem iterL {a : Addr} {ds : List D} : IterOk K G [(.ref a, .lst ds)] (Itl K a) ds := fun E am M σ δ H S hg => by
  obtain ⟨a', xs, e, hs, r⟩ := S.gh _ (hg (.ref a, .lst ds) (by simp))
  cases e
  have hs' : SqL K H a xs := SqL.of (mask_le _ _ hs)
  refine ⟨fun i hi => ⟨xs, hs', by rw [r.length]; exact hi⟩, fun i d hd => ?_⟩
  obtain ⟨x, hx, rx⟩ := r.get hd
  refine ⟨⟨xs, x, hs', hx⟩, fun y H' ⟨e1, e2⟩ => ?_⟩
  subst e1
  have e3 := e2 xs hs'
  rw [hx] at e3
  cases e3
  exact ⟨Same.refl _, rx⟩
theorem iterT {a : Addr} {ds : List D} : IterOk K G [(.ref a, .tup ds)] (Itt K a) ds := fun E am M σ δ H S hg => by
  obtain ⟨a', xs, e, hs, r⟩ := S.gh _ (hg (.ref a, .tup ds) (by simp))
  cases e
  have hs' := same_t mask_le hs
  refine ⟨fun i hi => ⟨xs, hs', by rw [r.length]; exact hi⟩, fun i d hd => ?_⟩
  obtain ⟨x, hx, rx⟩ := r.get hd
  refine ⟨⟨xs, x, hs', hx⟩, fun y H' ⟨e1, e2⟩ => ?_⟩
  subst e1
  have e3 := e2 xs hs'
  rw [hx] at e3
  cases e3
  exact ⟨Same.refl _, rx⟩
theorem sim_iL (h : SimE K G E te we) : SimI K G E (iList K te) (wItems asL we) := fun am M σ δ H S Rd q R k =>
  h am M σ δ H S _ q _ fun v r δ1 H1 S1 e1 o1 rv ⟨nb, ds, hd, hR⟩ => by
    have rr := rv.k.rep nb
    cases q : r.d with
    | lst ds' =>
      rw [q] at hd rr
      cases hd
      obtain ⟨a, xs, rfl, hs, r2⟩ := id rr
      refine ⟨a, rfl, ⟨xs, SqL.of (mask_le _ _ hs)⟩, k (Itl K a) ds [(.ref a, .lst ds)] δ1 H1 (S1.addgh _ fun p hp => ?_) e1 o1 iterL hR⟩
      have : p = (V.ref a, D.lst ds) := by simpa using hp
      subst this
      exact rr
    | _ => rw [q] at hd; cases hd
theorem sim_iT (h : SimE K G E te we) : SimI K G E (iTup K te) (wItems asT we) := fun am M σ δ H S Rd q R k =>
  h am M σ δ H S _ q _ fun v r δ1 H1 S1 e1 o1 rv ⟨nb, ds, hd, hR⟩ => by
    have rr := rv.k.rep nb
    cases q : r.d with
    | tup ds' =>
      rw [q] at hd rr
      cases hd
      obtain ⟨a, xs, rfl, hs, r2⟩ := id rr
      refine ⟨a, rfl, ⟨xs, same_t mask_le hs⟩, k (Itt K a) ds [(.ref a, .tup ds)] δ1 H1 (S1.addgh _ fun p hp => ?_) e1 o1 iterT hR⟩
      have : p = (V.ref a, D.tup ds) := by simpa using hp
      subst this
      exact rr
    | _ => rw [q] at hd; cases hd
theorem di_list (h : DE X G e te we) : DI X G tg e (iList X.K te) (wItems asL we) := ⟨pi_list h.pe, fun E => sim_iL (h.sim E)⟩
theorem di_tup (h : DE X G e te we) : DI X G tg e (iTup X.K te) (wItems asT we) := ⟨pi_tup h.pe, fun E => sim_iT (h.sim E)⟩
/-- range -/
def rng (lo : Int) (n : Nat) : List D := (List.range n).map fun (k : Nat) => D.int (lo + (k : Int))
theorem rng_len {lo : Int} {n : Nat} : (rng lo n).length = n := by simp [rng]
theorem rng_get {lo : Int} {n i : Nat} {d : D} (h : (rng lo n)[i]? = some d) : i < n ∧ d = .int (lo + i) := by
  have hi : i < n := by
    have := (List.getElem?_eq_some_iff.mp h).1
    rwa [rng_len] at this
  refine ⟨hi, ?_⟩
  rw [rng, List.getElem?_map, List.getElem?_range hi] at h
  exact (Option.some.inj h).symm
theorem iterR {lo : Int} {n : Nat} : IterOk K G [] (Itr lo n) (rng lo n) := fun E am M σ δ H S hg => by
  refine ⟨fun i hi => by rw [rng_len] at hi; exact hi, fun i d hd => ?_⟩
  obtain ⟨h1, rfl⟩ := rng_get hd
  refine ⟨h1, fun y H' ⟨e1, e2⟩ => ?_⟩
  subst e1 e2
  exact ⟨Same.refl _, rfl⟩
@[simp] def wRng1 (a : WA) : WI := fun δ R => a δ fun rs δ1 => ∃ j : Int, rs.map RD.d = [.int j] ∧ j < 2 ^ 62 ∧ -(2 ^ 62) ≤ j ∧ R (rng 0 j.toNat) δ1
@[simp] def wRng2 (a : WA) : WI := fun δ R => a δ fun rs δ1 => ∃ i j : Int, rs.map RD.d = [.int i, .int j] ∧ (-(2 ^ 62) ≤ i ∧ i < 2 ^ 62 ∧ -(2 ^ 62) ≤ j ∧ j < 2 ^ 62) ∧ R (rng i (j - i).toNat) δ1
variable {es : List Expr} {ta : TA} {wa : WA}
theorem RBs.one {M : List Addr} {H : Hp} {vs : List V} {d : D} (h : RBs K G M H vs [d]) : ∃ v, vs = [v] ∧ RB K G M H v d := by
  cases h with
  | cons a b => cases b; exact ⟨_, rfl, a⟩
theorem RBs.two {M : List Addr} {H : Hp} {vs : List V} {d e : D} (h : RBs K G M H vs [d, e]) : ∃ v u, vs = [v, u] ∧ RB K G M H v d ∧ RB K G M H u e := by
  cases h with
  | cons a b =>
    obtain ⟨u, rfl, c⟩ := b.one
    exact ⟨_, _, rfl, a, c⟩
theorem sim_r1 (h : SimA K G E ta wa) : SimI K G E (iRng1 ta) (wRng1 wa) := fun am M σ δ H S Rd q R k =>
  h am M σ δ H S _ q _ fun vs rs δ1 H1 S1 e1 o1 rv ⟨j, hj, h1, h2, hR⟩ => by
    have := rv.rbs S1
    rw [hj] at this
    obtain ⟨v, rfl, b⟩ := this.one
    rw [b.int]
    exact ⟨j, rfl, h2, h1, k _ _ [] δ1 H1 (S1.addgh _ fun p hp => by simp at hp) e1 o1 iterR hR⟩
theorem sim_r2 (h : SimA K G E ta wa) : SimI K G E (iRng2 ta) (wRng2 wa) := fun am M σ δ H S Rd q R k =>
  h am M σ δ H S _ q _ fun vs rs δ1 H1 S1 e1 o1 rv ⟨i, j, hj, hb, hR⟩ => by
    have := rv.rbs S1
    rw [hj] at this
    obtain ⟨v, u, rfl, b, c⟩ := this.two
    rw [b.int, c.int]
    exact ⟨i, j, rfl, hb, k _ _ [] δ1 H1 (S1.addgh _ fun p hp => by simp at hp) e1 o1 iterR hR⟩
theorem di_range1 {a : Expr} {p pos : Pos} (hg : Gl X "range") (hm : X.mg "range" = none) (ha : DA X G [a] ta wa) (hs : starEach [a] X.env = [(false, eval a X.env)] := by rfl) : DI X G tg (.Call (.Name "range" p) [a] [] pos) (iRng1 ta) (wRng1 wa) := ⟨pi_range1 hg hm ha.pa hs, fun E => sim_r1 (ha.sim E)⟩
theorem di_range2 {a b : Expr} {p pos : Pos} (hg : Gl X "range") (hm : X.mg "range" = none) (ha : DA X G [a, b] ta wa) (hs : starEach [a, b] X.env = [(false, eval a X.env), (false, eval b X.env)] := by rfl) (hs2 : starEach [b] X.env = [(false, eval b X.env)] := by rfl) :
    DI X G tg (.Call (.Name "range" p) [a, b] [] pos) (iRng2 ta) (wRng2 wa) := ⟨pi_range2 hg hm ha.pa hs hs2, fun E => sim_r2 (ha.sim E)⟩
end

@[simp] def wNext : WS := fun De δ => De.nx δ
@[simp] def wSeq (a b : WS) : WS := fun De δ => a ⟨b De, De.rt, De.bk, De.ct⟩ δ
@[simp] def wBrk : WS := fun De δ => De.bk δ
@[simp] def wCnt : WS := fun De δ => De.ct δ
@[simp] def wAsg (i : Nat) (w : WE) : WS := fun De δ => w δ fun r δ1 => ¬ r.bor ∧ De.nx ⟨δ1.sl.set i (some (.sh r.d)), δ1.n⟩
@[simp] def wAsgO (i : Nat) (w : WE) : WS := fun De δ => w δ fun r δ1 => ∃ d, r = .fr d ∧ De.nx ⟨δ1.sl.set i (some (.ow d)), δ1.n⟩
@[simp] def wAsgG (g : WG) (w : WE) : WS := fun De δ => w δ fun r δ1 => ¬ r.bor ∧ g r.d δ1 De.nx
@[simp] def wDrop (w : WE) : WS := fun De δ => w δ fun _ δ1 => De.nx δ1
@[simp] def wRet (w : WE) : WS := fun De δ => w δ fun r δ1 => De.rt r.d δ1.n
@[simp] def wRetN : WS := fun De δ => De.rt .non δ.n
@[simp] def wIfS (t : WT) (a b : WS) : WS := fun De δ => t δ fun k δ1 => (k = true → a De δ1) ∧ (k = false → b De δ1)
/-- the list in a slot is never changed again -/
@[simp] def wFree (i : Nat) (w : WS) : WS := fun De δ => ∃ d, δ.sl[i]? = some (some (SV.ow d)) ∧ w De ⟨δ.sl.set i (some (.sh d)), δ.n⟩
def wLoop (g : WG) (b : WS) (De : Ends3) : List D → St3 → Prop
  | [], δ => De.nx δ
  | x :: r, δ => g x δ fun δ1 => b ⟨wLoop g b De r, De.rt, De.nx, wLoop g b De r⟩ δ1
@[simp] def wFor (wi : WI) (g : WG) (b : WS) : WS := fun De δ => wi δ fun ds δ1 => wLoop g b De ds δ1
def wWhile (t : WT) (b : WS) : WS := fun De δ => ∃ W : Nat → St3 → Prop, (∃ m, W m δ) ∧ ∀ m δ, W m δ → t δ fun k δ1 =>
  (k = true → b ⟨fun δ' => ∃ m', m' < m ∧ W m' δ', De.rt, De.nx, fun δ' => ∃ m', m' < m ∧ W m' δ'⟩ δ1) ∧ (k = false → De.nx δ1)
def okp (o : Bool) (r : RD) : Prop := match o with
  | true => ∃ d, r = .fr d
  | false => ¬ r.bor
@[simp] theorem okp_0 (r : RD) : okp true r = ∃ d, r = .fr d := rfl
@[simp] theorem okp_1 (r : RD) : okp false r = ¬ r.bor := rfl
def svOf (o : Bool) (r : RD) : SV := match o with
  | true => .ow r.d
  | false => .sh r.d
@[simp] theorem svOf_0 (r : RD) : svOf true r = .ow r.d := rfl
@[simp] theorem svOf_1 (r : RD) : svOf false r = .sh r.d := rfl
@[simp] def wPar2 (i : Nat) (oi : Bool) (j : Nat) (oj : Bool) (a b : WE) : WS := fun De δ => a δ fun x δ1 => b δ1 fun y δ2 => okp oi x ∧ okp oj y ∧ De.nx ⟨(δ2.sl.set i (some (svOf oi x))).set j (some (svOf oj y)), δ2.n⟩
@[simp] def wPar3 (i : Nat) (oi : Bool) (j : Nat) (oj : Bool) (l : Nat) (ol : Bool) (a b c : WE) : WS := fun De δ => a δ fun x δ1 => b δ1 fun y δ2 => c δ2 fun z δ3 => okp oi x ∧ okp oj y ∧ okp ol z ∧
  De.nx ⟨((δ3.sl.set i (some (svOf oi x))).set j (some (svOf oj y))).set l (some (svOf ol z)), δ3.n⟩
section
variable {X : Cx} {G : Gx} {K : PySem.W.Frag} {E : Ent} {te ta tb tc : TE} {we wa wb wc : WE} {t u : TS} {w w' : WS} {e a b c : Expr} {st : Stmt} {sts : List Stmt} {tt : TT} {wt : WT} {pos : Pos}
theorem sim_seq (h1 : SimS K G t w) (h2 : SimS K G u w') : SimS K G (tSeq t u) (wSeq w w') := fun E am M σ δ H S D3 h De R =>
  h1 E am M σ δ H S _ h _ ⟨fun am M σ δ H S q => h2 E am M σ δ H S D3 q De R, R.bk, R.ct, R.rt⟩
theorem sim_next : SimS K G tNext wNext := fun E am M σ δ H S D3 h De R => R.nx am M σ δ H S h
theorem sim_brk : SimS K G tBreak wBrk := fun E am M σ δ H S D3 h De R => R.bk am M σ δ H S h
theorem sim_cnt : SimS K G tCont wCnt := fun E am M σ δ H S D3 h De R => R.ct am M σ δ H S h
theorem sim_asg {i : Nat} (h : ∀ E, SimE K G E te we) : SimS K G (tAsg te (gName i)) (wAsg i we) := fun E am M σ δ H S D3 q De R =>
  h E am M σ δ H S _ q _ fun v r δ1 H1 S1 e1 o1 rv ⟨nb, q⟩ => R.nx am M _ _ H1 (S1.set_sh (rv.k.rep nb)) q
theorem sim_asgG {g : TG} {wg : WG} {us : List Nat} (h : ∀ E, SimE K G E te we) (hg : SimG K G us g wg) : SimS K G (tAsg te g) (wAsgG wg we) := fun E am M σ δ H S D3 q De R =>
  h E am M σ δ H S _ q _ fun v r δ1 H1 S1 e1 o1 rv ⟨nb, q⟩ => hg E am M σ δ1 H1 S1 v _ (rv.k.rep nb) _ q _ fun σ' δ' S' _ _ q => R.nx am M σ' δ' H1 S' q
theorem sim_asgO {i : Nat} (h : ∀ E, SimE K G E te we) : SimS K G (tAsg te (gName i)) (wAsgO i we) := fun E am M σ δ H S D3 q De R =>
  h E am M σ δ H S _ q _ fun v r δ1 H1 S1 e1 o1 rv ⟨d, er, q⟩ => by
    subst er
    obtain ⟨p, rfl, hp, h0, o, S2⟩ := rv
    exact R.nx _ _ _ _ H1 (S2.set_ow List.mem_cons_self (fun z => hp (S1.ads p z)) (fun j d hd z => hp (z ▸ (S1.ow j d hd).2.1)) h0 o) q
theorem sim_drop (h : ∀ E, SimE K G E te we) : SimS K G (tDrop te) (wDrop we) := fun E am M σ δ H S D3 q De R =>
  h E am M σ δ H S _ q _ fun v r δ1 H1 S1 e1 o1 rv q => R.nx am M σ δ1 H1 S1 q
theorem RV.out {am : Nat → Addr} {M : List Addr} {σ : L2.St} {δ : St3} {H : Hp} {v : V} {r : RD} (S : SR K G E am M σ δ H) (h : RV K G E am M σ δ H v r) : Rep K G (mask E.ads H) v r.d := by
  cases r with
  | sh d => exact Rep.mono (mask_sub S.ads) d h
  | fr d => exact Rep.mono (mask_sub S.ads) d (RV.k h)
  | bo d =>
    obtain ⟨i, hi, rfl⟩ := h
    obtain ⟨_, _, c, _, o⟩ := S.ow i d hi
    exact o.rep (mask_sub S.ads) fun u e => by rw [mask_out c]; exact e
theorem sim_ret (h : ∀ E, SimE K G E te we) : SimS K G (tRet te) (wRet we) := fun E am M σ δ H S D3 q De R =>
  h E am M σ δ H S _ q _ fun v r δ1 H1 S1 e1 o1 rv q => R.rt v _ _ H1 (rv.out S1) S1.base S1.di q
theorem sim_retN : SimS K G tRetN wRetN := fun E am M σ δ H S D3 q De R => R.rt .non .non _ H rfl S.base S.di q
theorem sim_ifS (h : ∀ E, SimT K G E tt wt) (h1 : SimS K G t w) (h2 : SimS K G u w') : SimS K G (tIfS tt t u) (wIfS wt w w') := fun E am M σ δ H S D3 q De R =>
  h E am M σ δ H S _ q _ fun k δ1 H1 S1 e1 o1 q => by
    cases k with
    | true => rw [if_pos rfl]; exact h1 E am M σ δ1 H1 S1 D3 (q.1 rfl) De R
    | false => rw [if_neg Bool.false_ne_true]; exact h2 E am M σ δ1 H1 S1 D3 (q.2 rfl) De R
theorem sim_free {i : Nat} (h : SimS K G t w) : SimS K G t (wFree i w) := fun E am M σ δ H S D3 ⟨d, hd, q⟩ De R => by
  obtain ⟨M', _, S'⟩ := S.free hd
  exact h E am M' σ _ H S' D3 q De R
theorem sim_for {ti : TI} {wi : WI} {g : TG} {wg : WG} {us : List Nat} (hi : ∀ E, SimI K G E ti wi) (hg : SimG K G us g wg) (hb : SimS K G t w) : SimS K G (tFor ti g t) (wFor wi wg w) := fun E am M σ δ H S D3 q De R => by
  refine hi E am M σ δ H S _ q _ fun J items gh δ1 H1 S1 e1 o1 ok q => ?_
  refine ⟨fun i m σ H => m = items.length - i ∧ i ≤ items.length ∧ ∃ am M δ, SR K G (E.add gh) am M σ δ H ∧ wLoop wg w D3 (items.drop i) δ, ⟨_, rfl, Nat.zero_le _, am, M, δ1, S1, q⟩, ?_⟩
  rintro i m σ H ⟨rfl, hle, am, M, δ, S, q⟩
  obtain ⟨j1, j2⟩ := ok _ _ _ _ _ _ S fun p hp => List.mem_append_left _ hp
  by_cases hlt : i < items.length
  · have hd : items[i]? = some items[i] := List.getElem?_eq_getElem hlt
    obtain ⟨g1, g2⟩ := j2 i _ hd
    rw [List.drop_eq_getElem_cons hlt] at q
    refine .inr ⟨g1, fun σ' H' => ∃ am M δ, SR K G (E.add gh) am M σ' δ H' ∧ wLoop wg w D3 (items.drop (i + 1)) δ, fun σ' H' ⟨am, M, δ, S, q⟩ => ⟨_, by omega, rfl, hlt, am, M, δ, S, q⟩, fun x H' hy => ?_⟩
    obtain ⟨sm, rx⟩ := g2 x H' hy
    have S' := S.grow sm
    refine hg _ am M σ δ H' S' x _ rx _ q _ fun σ2 δ2 S2 _ _ q => ?_
    refine hb _ am M σ2 δ2 H' S2 _ q _ ⟨fun am M σ δ H S q => ⟨am, M, δ, S, q⟩, fun am M σ δ H S q => R.nx am M σ δ H S.drop q, fun am M σ δ H S q => ⟨am, M, δ, S, q⟩, R.rt⟩
  · have e : i = items.length := by omega
    subst e
    rw [List.drop_length] at q
    exact .inl ⟨j1 _ (Nat.le_refl _), R.nx am M σ δ H S.drop q⟩
theorem sim_while (ht : ∀ E, SimT K G E tt wt) (hb : SimS K G t w) : SimS K G (tWhile tt t) (wWhile wt w) := fun E am M σ δ H S D3 ⟨W, ⟨m, w0⟩, q⟩ De R => by
  refine ⟨fun m σ H => ∃ am M δ, SR K G E am M σ δ H ∧ W m δ, ⟨m, am, M, δ, S, w0⟩, fun m σ H ⟨am, M, δ, S, hw⟩ => ?_⟩
  refine ht E am M σ δ H S _ (q m δ hw) _ fun k δ1 H1 S1 e1 o1 q => ?_
  cases k with
  | false => rw [if_neg Bool.false_ne_true]; exact R.nx am M σ δ1 H1 S1 (q.2 rfl)
  | true =>
    rw [if_pos rfl]
    refine ⟨fun σ' H' => ∃ m', m' < m ∧ ∃ am M δ, SR K G E am M σ' δ H' ∧ W m' δ, fun σ' H' z => z, hb E am M σ δ1 H1 S1 _ (q.1 rfl) _ ⟨?_, ?_, ?_, R.rt⟩⟩
    · exact fun am M σ δ H S ⟨m', l, z⟩ => ⟨m', l, am, M, δ, S, z⟩
    · exact R.nx
    · exact fun am M σ δ H S ⟨m', l, z⟩ => ⟨m', l, am, M, δ, S, z⟩
/-- a value at hand that is to be stored later, kept while others are worked out -/
def PV (K : PySem.W.Frag) (G : Gx) (E : Ent) (am : Nat → Addr) (M : List Addr) (δ : St3) (H : Hp) (v : V) : Bool → D → Prop
  | true, d => ∃ p, v = .ref p ∧ p ∈ M ∧ p ∉ E.ads ∧ E.H0 p = none ∧ (∀ (j : Nat) (d : D), δ.sl[j]? = some (some (SV.ow d)) → am j ≠ p) ∧ OwnAt K G M H p d
  | false, d => Rep K G (mask M H) v d
theorem RV.pv {am : Nat → Addr} {M : List Addr} {σ : L2.St} {δ : St3} {H : Hp} {v : V} {r : RD} {o : Bool} (S : SR K G E am M σ δ H) (h : RV K G E am M σ δ H v r) (k : okp o r) :
    ∃ M', (∀ a ∈ M, a ∈ M') ∧ SR K G E am M' σ δ H ∧ PV K G E am M' δ H v o r.d ∧ (o = true → ∀ p, v = .ref p → p ∉ M) := by
  cases o with
  | false => exact ⟨M, fun _ z => z, S, h.k.rep k, fun z => by cases z⟩
  | true =>
    obtain ⟨d, rfl⟩ := k
    obtain ⟨p, rfl, hp, h0, o, S2⟩ := h
    exact ⟨p :: M, fun a z => List.mem_cons_of_mem _ z, S2, ⟨p, rfl, List.mem_cons_self, fun z => hp (S.ads p z), h0, fun j d hd z => hp (z ▸ (S.ow j d hd).2.1), o⟩, fun _ q e => by cases e; exact hp⟩
theorem RepAll.zip {H : Hp} : ∀ {xs : List V} {ds : List D}, RepAll K G H xs ds → ∀ p ∈ xs.zip ds, Rep K G H p.1 p.2
  | _, [], h, p, hp => by cases h; simp at hp
  | _, d :: ds, ⟨x, xs, e, r, t⟩, p, hp => by
    subst e
    rcases List.mem_cons.mp (show p ∈ (x, d) :: xs.zip ds from hp) with z | z
    · rw [z]; exact r
    · exact t.zip p z
theorem RepAll.unzip {H : Hp} : ∀ {xs : List V} {ds : List D}, xs.length = ds.length → (∀ p ∈ xs.zip ds, Rep K G H p.1 p.2) → RepAll K G H xs ds
  | [], [], _, _ => rfl
  | [], _ :: _, l, _ => by simp at l
  | _ :: _, [], l, _ => by simp at l
  | x :: xs, d :: ds, l, h => ⟨x, xs, rfl, h (x, d) List.mem_cons_self, RepAll.unzip (by simpa using l) fun p hp => h p (List.mem_cons_of_mem _ hp)⟩
theorem PV.ghost {am : Nat → Addr} {M : List Addr} {σ : L2.St} {δ : St3} {H : Hp} {v : V} {d : D} {o : Bool} (S : SR K G E am M σ δ H) (h : PV K G E am M δ H v o d) :
    ∃ l, SR K G (E.add l) am M σ δ H ∧ ∀ (M' : List Addr) (δ' : St3) (H' : Hp), SR K G (E.add l) am M' σ δ' H' → Ext G am δ H H' → (∀ i, isOwn δ' i → isOwn δ i) → (∀ a ∈ M, a ∈ M') → PV K G E am M' δ' H' v o d := by
  cases o with
  | false =>
    refine ⟨[(v, d)], S.addgh _ fun p hp => ?_, fun M' δ' H' S' _ _ _ => S'.gh (v, d) (by simp [Ent.add])⟩
    have : p = (v, d) := by simpa using hp
    subst this
    exact h
  | true =>
    obtain ⟨p, rfl, hp, ha, h0, hn, o⟩ := h
    have own : ∀ {δ' : St3}, (∀ i, isOwn δ' i → isOwn δ i) → ∀ (j : Nat) (d : D), δ'.sl[j]? = some (some (SV.ow d)) → am j ≠ p := fun ow j d hd => by
      obtain ⟨d', h'⟩ := ow j ⟨d, hd⟩
      exact hn j d' h'
    have keep : ∀ {H' : Hp}, Ext G am δ H H' → ∀ u, H p = some u → H' p = some u := fun e u hu => e p u hu (fun z => ha (S.dks p z)) fun i ⟨d, hi⟩ => hn i d hi
    cases d with
    | lst ds =>
      obtain ⟨xs, hx, r⟩ := o
      refine ⟨xs.zip ds, S.addgh _ r.zip, fun M' δ' H' S' e ow hM => ⟨p, rfl, hM p hp, ha, h0, own ow, xs, keep e _ hx, RepAll.unzip r.length fun q hq => S'.gh q (List.mem_append_left _ hq)⟩⟩
    | dct ks ds =>
      obtain ⟨xs, hx, l, r⟩ := o
      refine ⟨xs.zip ds, S.addgh _ r.zip, fun M' δ' H' S' e ow hM => ⟨p, rfl, hM p hp, ha, h0, own ow, xs, keep e _ hx, l, RepAll.unzip r.length fun q hq => S'.gh q (List.mem_append_left _ hq)⟩⟩
    | _ => exact o.elim
theorem PV.put {am : Nat → Addr} {M : List Addr} {σ : L2.St} {δ : St3} {H : Hp} {v : V} {r : RD} {o : Bool} {i : Nat} (S : SR K G E am M σ δ H) (h : PV K G E am M δ H v o r.d) :
    ∃ am', SR K G E am' M (σ.set i (some v)) ⟨δ.sl.set i (some (svOf o r)), δ.n⟩ H ∧ ∀ (v' : V) (o' : Bool) (d' : D), (o = true → o' = true → v' ≠ v) → PV K G E am M δ H v' o' d' → PV K G E am' M ⟨δ.sl.set i (some (svOf o r)), δ.n⟩ H v' o' d' := by
  cases o with
  | false =>
    refine ⟨am, S.set_sh h, fun v' o' r' _ h' => ?_⟩
    cases o' with
    | false => exact h'
    | true =>
      obtain ⟨p, e, hp, ha, h0, hn, o⟩ := h'
      exact ⟨p, e, hp, ha, h0, fun j d hd => by obtain ⟨d', q⟩ := own_set ⟨d, hd⟩; exact hn j d' q, o⟩
  | true =>
    obtain ⟨p, rfl, hp, ha, h0, hn, o⟩ := h
    refine ⟨_, S.set_ow (i := i) hp ha hn h0 o, fun v' o' r' hne h' => ?_⟩
    cases o' with
    | false => exact h'
    | true =>
      obtain ⟨p', rfl, hp', ha', h0', hn', o'⟩ := h'
      refine ⟨p', rfl, hp', ha', h0', fun j d hd => ?_, o'⟩
      show (if j = i then p else am j) ≠ p'
      by_cases q : j = i
      · rw [if_pos q]
        intro z
        exact hne rfl rfl (by rw [z])
      · rw [if_neg q]
        rcases get_set hd with ⟨z, _⟩ | ⟨_, z⟩
        · exact (q z).elim
        · exact hn' j d z
theorem EndsR.add {D3 : Ends3} {De : L2.Ends} (R : EndsR K G E D3 De) (l : List (V × D)) : EndsR K G (E.add l) D3 De :=
  ⟨fun am M σ δ H S => R.nx am M σ δ H S.drop, fun am M σ δ H S => R.bk am M σ δ H S.drop, fun am M σ δ H S => R.ct am M σ δ H S.drop, R.rt⟩
theorem PV.of_add {am : Nat → Addr} {M : List Addr} {δ : St3} {H : Hp} {v : V} {d : D} {o : Bool} {l : List (V × D)} (h : PV K G (E.add l) am M δ H v o d) : PV K G E am M δ H v o d := by
  cases o with
  | false => exact h
  | true => exact h
theorem PV.ref {am : Nat → Addr} {M : List Addr} {δ : St3} {H : Hp} {v : V} {d : D} (h : PV K G E am M δ H v true d) : ∃ p, v = .ref p ∧ p ∈ M := by
  obtain ⟨p, e, hp, _⟩ := h
  exact ⟨p, e, hp⟩
theorem sim_par2 {i j : Nat} {oi oj : Bool} (ha : ∀ E, SimE K G E ta wa) (hb : ∀ E, SimE K G E tb wb) : SimS K G (tPar i j (tCons ta (tCons tb tNil))) (wPar2 i oi j oj wa wb) := fun E am M σ δ H S D3 q De R => by
  refine ha E am M σ δ H S _ q _ fun x rx δ1 H1 S1 e1 o1 v1 q => ?_
  -- the first one must be fit to be stored: told at the end; till then both ways
  by_cases k1 : okp oi rx
  · obtain ⟨M1, i1, T1, p1, n1⟩ := v1.pv S1 k1
    obtain ⟨l1, G1, b1⟩ := p1.ghost T1
    refine hb (E.add l1) am M1 σ δ1 H1 G1 _ q _ fun y ry δ2 H2 S2 e2 o2 v2 ⟨_, k2, q⟩ => ?_
    obtain ⟨M2, i2, T2, p2, n2⟩ := v2.pv S2 k2
    have q1 := b1 M2 δ2 H2 T2 e2 o2 i2
    obtain ⟨am1, U1, f1⟩ := PV.put (i := i) T2.drop q1
    have q2 := f1 y oj ry.d (fun z1 z2 e => by
      subst z1 z2
      obtain ⟨p, e', hp⟩ := p1.ref
      exact n2 rfl p (by rw [e, e']) hp) p2.of_add
    obtain ⟨am2, U2, _⟩ := PV.put (i := j) U1 q2
    exact ⟨x, y, rfl, R.nx _ _ _ _ _ U2 q⟩
  · refine hb E am M σ δ1 H1 S1 _ q _ fun y ry δ2 H2 S2 e2 o2 v2 ⟨k, _⟩ => (k1 k).elim
theorem sim_par3 {i j m : Nat} {oi oj om : Bool} (ha : ∀ E, SimE K G E ta wa) (hb : ∀ E, SimE K G E tb wb) (hc : ∀ E, SimE K G E tc wc) : SimS K G (tPar3 i j m (tCons ta (tCons tb (tCons tc tNil)))) (wPar3 i oi j oj m om wa wb wc) := fun E am M σ δ H S D3 q De R => by
  refine ha E am M σ δ H S _ q _ fun x rx δ1 H1 S1 e1 o1 v1 q => ?_
  by_cases k1 : okp oi rx
  · obtain ⟨M1, i1, T1, p1, n1⟩ := v1.pv S1 k1
    obtain ⟨l1, G1, b1⟩ := p1.ghost T1
    refine hb (E.add l1) am M1 σ δ1 H1 G1 _ q _ fun y ry δ2 H2 S2 e2 o2 v2 q => ?_
    by_cases k2 : okp oj ry
    · obtain ⟨M2, i2, T2, p2, n2⟩ := v2.pv S2 k2
      obtain ⟨l2, G2, b2⟩ := p2.ghost T2
      refine hc ((E.add l1).add l2) am M2 σ δ2 H2 G2 _ q _ fun z rz δ3 H3 S3 e3 o3 v3 ⟨_, _, k3, q⟩ => ?_
      obtain ⟨M3, i3, T3, p3, n3⟩ := v3.pv S3 k3
      have q2 := (b2 M3 δ3 H3 T3 e3 o3 i3).of_add
      have q1 := b1 M3 δ3 H3 T3.drop (e2.trans o2 e3) (fun i z => o2 i (o3 i z)) fun a z => i3 a (i2 a z)
      obtain ⟨am1, U1, f1⟩ := PV.put (i := i) T3.drop.drop q1
      have r2 := f1 y oj ry.d (fun z1 z2 e => by
        subst z1 z2
        obtain ⟨p, e', hp⟩ := p1.ref
        exact n2 rfl p (by rw [e, e']) hp) q2
      have r3 := f1 z om rz.d (fun z1 z2 e => by
        subst z1 z2
        obtain ⟨p, e', hp⟩ := p1.ref
        exact n3 rfl p (by rw [e, e']) (i2 p hp)) p3.of_add.of_add
      obtain ⟨am2, U2, f2⟩ := PV.put (i := j) U1 r2
      have s3 := f2 z om rz.d (fun z1 z2 e => by
        subst z1 z2
        obtain ⟨p, e', hp⟩ := p2.ref
        exact n3 rfl p (by rw [e, e']) hp) r3
      obtain ⟨am3, U3, _⟩ := PV.put (i := m) U2 s3
      exact ⟨x, y, z, rfl, R.nx _ _ _ _ _ U3 q⟩
    · refine hc _ am M1 σ δ2 H2 S2 _ q _ fun z rz δ3 H3 S3 e3 o3 v3 ⟨_, k, _⟩ => (k2 k).elim
  · refine hb E am M σ δ1 H1 S1 _ q _ fun y ry δ2 H2 S2 e2 o2 v2 q => ?_
    refine hc _ am M σ δ2 H2 S2 _ q _ fun z rz δ3 H3 S3 e3 o3 v3 ⟨k, _⟩ => (k1 k).elim
end
end L3
namespace L3
open PySem L2
def wLcGo (g : WG) (t : WT) (w : WE) (vs : List Nat) (Q : List D → St3 → Prop) : List D → List D → St3 → Prop
  | [], acc, δ => Q acc δ
  | x :: r, acc, δ => g x δ fun δ1 => t δ1 fun k δ2 =>
    (k = true → w δ2 fun q δ3 => ¬ q.bor ∧ acc.length < 16777216 ∧ wLcGo g t w vs Q r (acc ++ [q.d]) ⟨wipe3 δ3.sl vs, δ3.n⟩) ∧ (k = false → wLcGo g t w vs Q r acc ⟨wipe3 δ2.sl vs, δ2.n⟩)
@[simp] def wLc (wi : WI) (g : WG) (t : WT) (w : WE) (vs : List Nat) : WE := fun δ Q => wi δ fun ds δ1 => noOwn δ1.sl vs ∧
  wLcGo g t w vs (fun acc δ2 => Q (.fr (.lst acc)) ⟨unwipe δ1.sl δ2.sl vs, δ2.n⟩) ds [] ⟨wipe3 δ1.sl vs, δ1.n⟩
@[simp] def wYes : WT := fun δ Q => Q true δ
section
variable {X : Cx} {G : Gx} {K : PySem.W.Frag} {E : Ent}
theorem sim_yes : SimT K G E tYes wYes := fun am M σ δ H S Qd h Q k => k true δ H S .refl (fun _ z => z) h
theorem line16 : sizeLine = 16777216 := by decide
theorem unwipe_own {sl0 sl : List (Option SV)} {n m : Nat} {i : Nat} {vs : List Nat} (no : noOwn sl0 vs) (h : isOwn ⟨unwipe sl0 sl vs, n⟩ i) : isOwn ⟨sl, m⟩ i := by
  obtain ⟨d, h⟩ := h
  rcases unwipe_get h with ⟨_, z⟩ | ⟨z, w⟩
  · exact ⟨d, z⟩
  · exact (no.at z w).elim
theorem sim_lc {ti : TI} {wi : WI} {g : TG} {wg : WG} {us vs : List Nat} {tt : TT} {wt : WT} {te : TE} {we : WE} (hi : ∀ E, SimI K G E ti wi) (hg : SimG K G us g wg) (hu : ∀ u ∈ us, u ∈ vs) (ht : ∀ E, SimT K G E tt wt) (he : ∀ E, SimE K G E te we) : SimE K G E (tLc ti g tt te vs) (wLc wi wg wt we vs) := fun am M σ δ H S Qd q Q k => by
  refine hi E am M σ δ H S _ q _ fun J items gh δ1 H1 S1 e1 o1 ok ⟨no, q⟩ => fun p hp => ?_
  have sm := same_new (o := .lst []) hp
  have T0 := S1.more (p := p) hp sm (by rw [upd_same]; simp)
  have T1 := T0.wiped vs
  have pM : p ∉ M := fun z => S1.al p z hp
  refine ⟨fun i m H => m = items.length - i ∧ i ≤ items.length ∧ ∃ (δ : St3) (acc : List D) (xs : List V), SR K G (E.add gh) am (p :: M) (wipe σ vs) δ H ∧ H p = some (.lst xs) ∧ RepAll K G (mask (p :: M) H) xs acc ∧
      Ext G am δ1 H1 H ∧ (∀ i, isOwn δ i → isOwn δ1 i) ∧ wLcGo wg wt we vs (fun acc δ2 => Qd (.fr (.lst acc)) ⟨unwipe δ1.sl δ2.sl vs, δ2.n⟩) (items.drop i) acc δ,
    ⟨_, rfl, Nat.zero_le _, _, [], [], T1, upd_same, rfl, Ext.of sm, fun i z => wipe3_own z, q⟩, ?_⟩
  rintro i m H ⟨rfl, hle, δ, acc, xs, S, hx, rx, ex, ox, q⟩
  obtain ⟨j1, j2⟩ := ok _ _ _ _ _ _ S fun p hp => List.mem_append_left _ hp
  have pOwn : ∀ i, isOwn δ1 i → am i ≠ p := fun i ⟨d, hi⟩ z => pM (z ▸ (S1.ow i d hi).2.1)
  have pDk : p ∉ G.dk := fun z => pM (S1.ads p (S1.dks p z))
  by_cases hlt : i < items.length
  · have hd : items[i]? = some items[i] := List.getElem?_eq_getElem hlt
    obtain ⟨g1, g2⟩ := j2 i _ hd
    rw [List.drop_eq_getElem_cons hlt] at q
    refine .inr ⟨g1, fun H' => ∃ (δ : St3) (acc : List D) (xs : List V), SR K G (E.add gh) am (p :: M) (wipe σ vs) δ H' ∧ H' p = some (.lst xs) ∧ RepAll K G (mask (p :: M) H') xs acc ∧
      Ext G am δ1 H1 H' ∧ (∀ i, isOwn δ i → isOwn δ1 i) ∧ wLcGo wg wt we vs (fun acc δ2 => Qd (.fr (.lst acc)) ⟨unwipe δ1.sl δ2.sl vs, δ2.n⟩) (items.drop (i + 1)) acc δ, fun H' z => ⟨_, by omega, rfl, hlt, z⟩, fun x H' hy => ?_⟩
    obtain ⟨sm2, rx2⟩ := g2 x H' hy
    have S' := S.grow sm2
    refine hg _ am (p :: M) _ δ H' S' x _ rx2 _ q _ fun σ2 δ2 S2 w2 o2 q => ?_
    have hw : wipe σ2 vs = wipe σ vs := (w2 vs hu).trans wipe_wipe
    refine ⟨hw, ?_⟩
    refine ht _ am (p :: M) σ2 δ2 H' S2 _ q _ fun b δ3 H3 S3 e3 o3 q => ?_
    have keep : ∀ {H4 : Hp} {δ4 : St3}, Ext G am δ4 H' H4 → (∀ i, isOwn δ4 i → isOwn δ1 i) → ∀ o, H p = some o → H4 p = some o := fun e o u hu => e p u (sm2 _ _ hu) pDk fun i hi => pOwn i (o i hi)
    have ext3 : Ext G am δ1 H1 H3 := (ex.trans ox (Ext.of (δ := δ) sm2)).trans (fun i z => ox i (o2 i z)) e3
    have own3 : ∀ i, isOwn δ3 i → isOwn δ1 i := fun i z => ox i (o2 i (o3 i z))
    cases b with
    | false =>
      rw [if_neg Bool.false_ne_true]
      have T := S3.wiped vs
      rw [hw] at T
      exact ⟨_, acc, xs, T, keep e3 (fun i z => ox i (o2 i z)) _ hx, (rx.mono (mask_mono sm2)).mono (S2.mask e3), ext3, fun i z => own3 i (wipe3_own z), q.2 rfl⟩
    | true =>
      rw [if_pos rfl]
      refine he _ am (p :: M) σ2 δ3 H3 S3 _ (q.1 rfl) _ fun y ry δ4 H4 S4 e4 o4 v4 ⟨nb, sz, q⟩ => ?_
      have h4 : H4 p = some (.lst xs) := e4 p _ (keep e3 (fun i z => ox i (o2 i z)) _ hx) pDk fun i hi => pOwn i (own3 i hi)
      have r4 : RepAll K G (mask (p :: M) H4) xs acc := ((rx.mono (mask_mono sm2)).mono (S2.mask e3)).mono (S3.mask e4)
      refine ⟨xs, h4, by rw [r4.length, line16]; exact sz, ?_⟩
      have T4 : SR K G (E.add gh) am (p :: M) σ2 δ4 (upd H4 p (.lst (xs ++ [y]))) := by
        refine ⟨S4.len, fun j d h => ?_, fun j d h => ?_, S4.inj, S4.ads, S4.dks, fun a ha => ?_, fun b o hb kb => ?_, ?_, fun g hg => ?_⟩
        · rw [mask_upd List.mem_cons_self]; exact S4.sh j d h
        · obtain ⟨a1, a2, a3, a4, a5⟩ := S4.ow j d h
          refine ⟨a1, a2, a3, a4, a5.to (by rw [mask_upd List.mem_cons_self]; exact Same.refl _) fun o e => ?_⟩
          rw [upd_ne (pOwn j (own3 j (o4 j ⟨d, h⟩)))]; exact e
        · by_cases z : a = p
          · subst z; rw [upd_same]; simp
          · rw [upd_ne z]; exact S4.al a ha
        · have := S4.base b o hb kb
          have ne : b ≠ p := fun z => by
            subst z
            have h0 := S1.base _ o hb kb
            rw [hp] at h0; cases h0
          rw [upd_ne ne]; exact this
        · refine G.frame _ _ _ (fun a ha o e => ?_) S4.di
          rw [upd_ne fun z => pDk (by rw [← z]; exact ha)]; exact e
        · rw [mask_upd List.mem_cons_self]; exact S4.gh g hg
      have T := T4.wiped vs
      rw [hw] at T
      refine ⟨_, acc ++ [ry.d], xs ++ [y], T, upd_same, ?_, fun b o hb kb ho => ?_, fun i z => own3 i (o4 i (wipe3_own z)), q⟩
      · rw [mask_upd List.mem_cons_self]
        exact r4.append (RepAll.one (v4.k.rep nb))
      · have ne : b ≠ p := fun z => by subst z; rw [hp] at hb; cases hb
        rw [upd_ne ne]
        exact (ext3.trans own3 e4) b o hb kb ho
  · have e : i = items.length := by omega
    subst e
    rw [List.drop_length] at q
    refine .inl ⟨j1 _ (Nat.le_refl _), ?_⟩
    have smk : Same (mask (p :: M) H1) (mask (p :: M) H) := mask_same fun b o hb h => ex b o h (fun z => hb (List.mem_cons_of_mem _ (S1.ads b (S1.dks b z)))) fun i ⟨d, hi⟩ z => hb (z ▸ List.mem_cons_of_mem _ (S1.ow i d hi).2.1)
    have B : SR K G (E.add gh) am (p :: M) σ ⟨unwipe δ1.sl δ.sl vs, δ.n⟩ H := S1.back S (fun a z => List.mem_cons_of_mem _ z) no smk fun i d hi v hv => by
      obtain ⟨v', a, b⟩ := S1.sh i d hi
      rw [hv] at a
      cases a
      exact b.mono (mask_new hp (Same.refl _))
    have own : ∀ i, isOwn ⟨unwipe δ1.sl δ.sl vs, δ.n⟩ i → isOwn δ1 i := fun i z => ox i (unwipe_own no z)
    have B2 : SR K G (E.add gh) am M σ ⟨unwipe δ1.sl δ.sl vs, δ.n⟩ H := B.less (fun a z => List.mem_cons_of_mem _ z) S1.ads fun j d h => by
      obtain ⟨d', h'⟩ := own j ⟨d, h⟩
      exact (S1.ow j d' h').2.1
    refine k (.ref p) (.fr (.lst acc)) _ H B2.drop (e1.trans o1 ex) (fun i z => o1 i (own i z)) ⟨p, rfl, pM, ?_, ⟨xs, hx, rx⟩, B.drop⟩ q
    cases z : E.H0 p with
    | none => rfl
    | some o => exact absurd (S1.base p o z pDk) (by rw [hp]; simp)
end
/-- a clause's tests -/
structure DTs (X : Cx) (G : Gx) (ifs : List Expr) (tt : TT) (w : WT) : Prop where
  pt : PTs X ifs tt
  sim : ∀ E, SimT X.K G E tt w
section
variable {X : Cx} {G : Gx} {E : Ent}
theorem dts_nil : DTs X G [] tYes wYes := ⟨pts_nil, fun _ => sim_yes⟩
theorem dts_one {c : Expr} {t : TT} {w : WT} (h : DT X G c t w) : DTs X G [c] t w := ⟨pts_one h.pt, h.sim⟩
variable {elt tg iter : Expr} {ifs : List Expr} {scope : Scope} {own : List (Str × Nat)} {pos spos py : Pos} {ti : TI} {wi : WI} {g : TG} {wg : WG} {us : List Nat} {tt : TT} {wt : WT} {te : TE} {we : WE} {i : Nat} {y : Str}
theorem de_lc (hc : X.calm = true) (hN : X.N.Nodup) (hi : DI X G tg iter ti wi) (ok : BlkOk X.N X.env.scope scope own)
    (hg : ∀ (s : Shared) (H : Hp) (C : Addr) (cl : List (Str × Addr)) (fp : List Addr), DG (X.blk s H scope (compEnvC scope cl C X.env) fp) G tg us g wg) (ht : ∀ (s : Shared) (H : Hp) (C : Addr) (cl : List (Str × Addr)) (fp : List Addr), DTs (X.blk s H scope (compEnvC scope cl C X.env) fp) G ifs tt wt)
    (he : ∀ (s : Shared) (H : Hp) (C : Addr) (cl : List (Str × Addr)) (fp : List Addr), DE (X.blk s H scope (compEnvC scope cl C X.env) fp) G elt te we) (hu : ∀ u ∈ us, u ∈ own.map (·.2)) (hs : ∀ x, foldedSetIterable iter X.env x = pure x := by intro _; rfl) :
    DE X G (.ListComp elt [⟨tg, iter, ifs, 0⟩] scope pos) (tLc ti g tt te (own.map (·.2))) (wLc wi wg wt we (own.map (·.2))) :=
  ⟨pe_lc hc hN hi.pi ok (fun s H C cl fp => (hg s H C cl fp).pg) (fun s H C cl fp => (ht s H C cl fp).pt) (fun s H C cl fp => (he s H C cl fp).pe) hs,
    fun E => sim_lc hi.sim (hg X.s_0 (fun _ => none) 0 [] []).sim hu (ht X.s_0 (fun _ => none) 0 [] []).sim (he X.s_0 (fun _ => none) 0 [] []).sim⟩
theorem ds_setLc (hc : X.calm = true) (hN : X.N.Nodup) (hy : X.N[i]? = some y) (hyl : X.env.scope.names.lookup y = some .local)
    (hsw : swapsWith (.ListComp elt [⟨tg, iter, ifs, 0⟩] scope pos) (some (.Name y py)) spos.line X.env = pure true) (hi : DI X G tg iter ti wi) (ok : BlkOk X.N X.env.scope scope own)
    (hg : ∀ (s : Shared) (H : Hp) (C : Addr) (cl : List (Str × Addr)) (fp : List Addr), DG (X.blk s H scope (compEnvC scope cl C X.env) fp) G tg us g wg) (ht : ∀ (s : Shared) (H : Hp) (C : Addr) (cl : List (Str × Addr)) (fp : List Addr), DTs (X.blk s H scope (compEnvC scope cl C X.env) fp) G ifs tt wt)
    (he : ∀ (s : Shared) (H : Hp) (C : Addr) (cl : List (Str × Addr)) (fp : List Addr), DE (X.blk s H scope (compEnvC scope cl C X.env) fp) G elt te we) (hu : ∀ u ∈ us, u ∈ own.map (·.2)) (hs : ∀ x, foldedSetIterable iter X.env x = pure x := by intro _; rfl) :
    DS X G (.Assign [.Name y py] (.ListComp elt [⟨tg, iter, ifs, 0⟩] scope pos) spos) (tAsg (tLc ti g tt te (own.map (·.2))) (gName i)) (wAsg i (wLc wi wg wt we (own.map (·.2)))) :=
  ⟨ps_setLc hc hN hy hyl hsw hi.pi ok (fun s H C cl fp => (hg s H C cl fp).pg) (fun s H C cl fp => (ht s H C cl fp).pt) (fun s H C cl fp => (he s H C cl fp).pe) hs,
    sim_asg fun E => sim_lc hi.sim (hg X.s_0 (fun _ => none) 0 [] []).sim hu (ht X.s_0 (fun _ => none) 0 [] []).sim (he X.s_0 (fun _ => none) 0 [] []).sim⟩
theorem ds_setLcO (hc : X.calm = true) (hN : X.N.Nodup) (hy : X.N[i]? = some y) (hyl : X.env.scope.names.lookup y = some .local)
    (hsw : swapsWith (.ListComp elt [⟨tg, iter, ifs, 0⟩] scope pos) (some (.Name y py)) spos.line X.env = pure true) (hi : DI X G tg iter ti wi) (ok : BlkOk X.N X.env.scope scope own)
    (hg : ∀ (s : Shared) (H : Hp) (C : Addr) (cl : List (Str × Addr)) (fp : List Addr), DG (X.blk s H scope (compEnvC scope cl C X.env) fp) G tg us g wg) (ht : ∀ (s : Shared) (H : Hp) (C : Addr) (cl : List (Str × Addr)) (fp : List Addr), DTs (X.blk s H scope (compEnvC scope cl C X.env) fp) G ifs tt wt)
    (he : ∀ (s : Shared) (H : Hp) (C : Addr) (cl : List (Str × Addr)) (fp : List Addr), DE (X.blk s H scope (compEnvC scope cl C X.env) fp) G elt te we) (hu : ∀ u ∈ us, u ∈ own.map (·.2)) (hs : ∀ x, foldedSetIterable iter X.env x = pure x := by intro _; rfl) :
    DS X G (.Assign [.Name y py] (.ListComp elt [⟨tg, iter, ifs, 0⟩] scope pos) spos) (tAsg (tLc ti g tt te (own.map (·.2))) (gName i)) (wAsgO i (wLc wi wg wt we (own.map (·.2)))) :=
  ⟨ps_setLc hc hN hy hyl hsw hi.pi ok (fun s H C cl fp => (hg s H C cl fp).pg) (fun s H C cl fp => (ht s H C cl fp).pt) (fun s H C cl fp => (he s H C cl fp).pe) hs,
    sim_asgO fun E => sim_lc hi.sim (hg X.s_0 (fun _ => none) 0 [] []).sim hu (ht X.s_0 (fun _ => none) 0 [] []).sim (he X.s_0 (fun _ => none) 0 [] []).sim⟩

variable {st : Stmt} {sts a b : List Stmt} {e c : Expr} {t u : TS} {w w' : WS}
theorem dss_nil : DSs X G [] tNext wNext := ⟨pss_nil, sim_next⟩
theorem dss_cons (h1 : DS X G st t w) (h2 : DSs X G sts u w') : DSs X G (st :: sts) (tSeq t u) (wSeq w w') := ⟨pss_cons h1.ps h2.ps, sim_seq h1.sim h2.sim⟩
theorem dss_one (h1 : DS X G st t w) : DSs X G [st] t w := ⟨pss_one h1.ps, h1.sim⟩
theorem dss_free (i : Nat) (h1 : DSs X G sts t w) : DSs X G sts t (wFree i w) := ⟨h1.ps, sim_free h1.sim⟩
theorem ds_pass : DS X G (.Pass pos) tNext wNext := ⟨ps_pass, sim_next⟩
theorem ds_break : DS X G (.Break pos) tBreak wBrk := ⟨ps_break, sim_brk⟩
theorem ds_continue : DS X G (.Continue pos) tCont wCnt := ⟨ps_continue, sim_cnt⟩
theorem ds_expr (he : DE X G e te we) (hs : swapsWith e none pos.line X.env = pure false := by rfl) : DS X G (.Expr e pos) (tDrop te) (wDrop we) := ⟨ps_expr he.pe hs, sim_drop he.sim⟩
theorem ds_ret (he : DE X G e te we) : DS X G (.Return (some e) pos) (tRet te) (wRet we) := ⟨ps_ret he.pe, sim_ret he.sim⟩
theorem ds_retN : DS X G (.Return none pos) tRetN wRetN := ⟨ps_retN, sim_retN⟩
theorem ds_if (hc : DT X G c tt wt) (ha : DSs X G a t w) (hb : DSs X G b u w') : DS X G (.If c a b pos) (tIfS tt t u) (wIfS wt w w') := ⟨ps_if hc.pt ha.ps hb.ps, sim_ifS hc.sim ha.sim hb.sim⟩
theorem ds_set (i : Nat) {x : Str} (hN : X.N.Nodup) (he : DE X G e te we) (hi : X.N[i]? = some x := by rfl) (hx : Loc X.env.scope x := by first | exact Or.inl rfl | exact Or.inr rfl) (hs : swapsWith e (some (.Name x py)) pos.line X.env = pure false := by rfl)
    (hf : X.fn x = true ∨ X.env.scope.names.lookup x = some .local := by first | exact .inl rfl | exact .inr rfl) : DS X G (.Assign [.Name x py] e pos) (tAsg te (gName i)) (wAsg i we) := ⟨ps_set hN hi hx he.pe hs hf, sim_asg he.sim⟩
theorem ds_setO (i : Nat) {x : Str} (hN : X.N.Nodup) (he : DE X G e te we) (hi : X.N[i]? = some x := by rfl) (hx : Loc X.env.scope x := by first | exact Or.inl rfl | exact Or.inr rfl) (hs : swapsWith e (some (.Name x py)) pos.line X.env = pure false := by rfl)
    (hf : X.fn x = true ∨ X.env.scope.names.lookup x = some .local := by first | exact .inl rfl | exact .inr rfl) : DS X G (.Assign [.Name x py] e pos) (tAsg te (gName i)) (wAsgO i we) := ⟨ps_set hN hi hx he.pe hs hf, sim_asgO he.sim⟩
theorem ds_asg (he : DE X G e te we) (hg : DG X G tg us g wg) (hs : swapsWithSole [tg] e pos.line X.env = pure false := by rfl) (hw : swappedStores [tg] e X.env = pure none := by rfl)
    (h1 : (assignEach [tg] X.env).map (·.2) = [assign tg X.env] := by rfl) : DS X G (.Assign [tg] e pos) (tAsg te g) (wAsgG wg we) := ⟨ps_asg he.pe hg.pg hs hw h1, sim_asgG he.sim hg.sim⟩
theorem ds_for (hp : PassesOwn (model X.prog X.w) X.A X.env X.xe) (hc : X.calm = true) (hi : DI X G tg iter ti wi) (hg : DG X G tg us g wg) (hb : DSs X G a t w) (hs : ∀ x, foldedSetIterable iter X.env x = pure x := by intro _; rfl) :
    DS X G (.For tg iter a [] pos) (tFor ti g t) (wFor wi wg w) := ⟨ps_for hp hc hi.pi hg.pg hb.ps hs, sim_for hi.sim hg.sim hb.sim⟩
theorem ds_while (hp : PassesOwn (model X.prog X.w) X.A X.env X.xe) (hc : DT X G c tt wt) (hb : DSs X G a t w) : DS X G (.While c a [] pos) (tWhile tt t) (wWhile wt w) := ⟨ps_while hp hc.pt hb.ps, sim_while hc.sim hb.sim⟩
variable {e1 e2 e3 : Expr} {t1 t2 t3 : TE} {w1 w2 w3 : WE} {x y' z : Str} {px py' pz pt pt2 : Pos} {i' j l : Nat} {oi oj ol : Bool}
theorem ds_par2 (i' : Nat) (oi : Bool) (j : Nat) (oj : Bool) {kt k2} (hc : X.calm = true) (hN : X.N.Nodup) (h1 : DE X G e1 t1 w1) (h2 : DE X G e2 t2 w2) (hij : i' ≠ j := by decide) (hi : X.N[i']? = some x := by rfl) (hj : X.N[j]? = some y' := by rfl)
    (hx : X.env.scope.names.lookup x = some .local := by rfl) (hy : X.env.scope.names.lookup y' = some .local := by rfl) (hst : starEach [e1, e2] X.env = (false, eval e1 X.env) :: starEach [e2] X.env := by rfl) (hst2 : starEach [e2] X.env = (false, eval e2 X.env) :: starEach [] X.env := by rfl)
    (hw : swappedStores [.Tuple [.Name x px, .Name y' py'] kt pt] (.Tuple [e1, e2] k2 pt2) X.env = pure (some [x, y']) := by rfl)
    (hs : swapsWithSole [.Tuple [.Name x px, .Name y' py'] kt pt] (.Tuple [e1, e2] k2 pt2) pos.line X.env = pure false := by rfl) :
    DS X G (.Assign [.Tuple [.Name x px, .Name y' py'] kt pt] (.Tuple [e1, e2] k2 pt2) pos) (tPar i' j (tCons t1 (tCons t2 tNil))) (wPar2 i' oi j oj w1 w2) :=
  ⟨ps_par hc hN hi hj hij hx hy (pa_cons h1.pe (pa_cons h2.pe pa_nil hst2) hst) hw hs, sim_par2 h1.sim h2.sim⟩
theorem ds_par3 (i' : Nat) (oi : Bool) (j : Nat) (oj : Bool) (l : Nat) (ol : Bool) {kt k2} (hc : X.calm = true) (hN : X.N.Nodup) (h1 : DE X G e1 t1 w1) (h2 : DE X G e2 t2 w2) (h3 : DE X G e3 t3 w3) (hij : i' ≠ j := by decide) (hil : i' ≠ l := by decide) (hjl : j ≠ l := by decide)
    (hi : X.N[i']? = some x := by rfl) (hj : X.N[j]? = some y' := by rfl) (hl : X.N[l]? = some z := by rfl)
    (hx : X.env.scope.names.lookup x = some .local := by rfl) (hy : X.env.scope.names.lookup y' = some .local := by rfl) (hz : X.env.scope.names.lookup z = some .local := by rfl)
    (hst : starEach [e1, e2, e3] X.env = (false, eval e1 X.env) :: starEach [e2, e3] X.env := by rfl) (hst2 : starEach [e2, e3] X.env = (false, eval e2 X.env) :: starEach [e3] X.env := by rfl) (hst3 : starEach [e3] X.env = (false, eval e3 X.env) :: starEach [] X.env := by rfl)
    (hw : swappedStores [.Tuple [.Name x px, .Name y' py', .Name z pz] kt pt] (.Tuple [e1, e2, e3] k2 pt2) X.env = pure (some [x, y', z]) := by rfl)
    (hs : swapsWithSole [.Tuple [.Name x px, .Name y' py', .Name z pz] kt pt] (.Tuple [e1, e2, e3] k2 pt2) pos.line X.env = pure false := by rfl) :
    DS X G (.Assign [.Tuple [.Name x px, .Name y' py', .Name z pz] kt pt] (.Tuple [e1, e2, e3] k2 pt2) pos) (tPar3 i' j l (tCons t1 (tCons t2 (tCons t3 tNil)))) (wPar3 i' oi j oj l ol w1 w2 w3) :=
  ⟨ps_par3 hc hN hi hj hl hij hil hjl hx hy hz (pa_cons h1.pe (pa_cons h2.pe (pa_cons h3.pe pa_nil hst3) hst2) hst) hw hs, sim_par3 h1.sim h2.sim h3.sim⟩
end
end L3
namespace L3
open PySem L2
mutual
def D.py : D → Option PyData
  | .non => some .none
  | .bl b => some (.bool b)
  | .int i => some (.int i)
  | .str x => some (.str x)
  | .lst ds => (D.pys ds).map .list
  | .tup ds => (D.pys ds).map .tuple
  | .dct _ _ => none
  | .ins _ _ => none
  | .deck => none
def D.pys : List D → Option (List PyData)
  | [] => some []
  | d :: ds => (D.py d).bind fun p => (D.pys ds).map fun ps => p :: ps
end
section
variable {K : PySem.W.Frag} {G : Gx} {H : Hp}
mutual
theorem Rep.dp : ∀ (d : D) {v : V} {p : PyData}, d.py = some p → Rep K G H v d → Dp K H v p
  | .non, v, p, e, r => by
    have e : p = .none := (Option.some.inj (by simpa [D.py] using e)).symm
    have r : v = .non := r
    subst e r
    exact .non
  | .bl b, v, p, e, r => by
    have e : p = .bool b := (Option.some.inj (by simpa [D.py] using e)).symm
    have r : v = .bl b := r
    subst e r
    exact .bl b
  | .int i, v, p, e, r => by
    have e : p = .int i := (Option.some.inj (by simpa [D.py] using e)).symm
    have r : v = .int i := r
    subst e r
    exact .int i
  | .str x, v, p, e, r => by
    have e : p = .str x := (Option.some.inj (by simpa [D.py] using e)).symm
    have r : v = .str x := r
    subst e r
    exact .str x
  | .lst ds, v, p, e, ⟨a, xs, h1, h2, h3⟩ => by
    unfold D.py at e
    obtain ⟨ps, e1, e2⟩ := Option.map_eq_some_iff.mp e
    subst e2 h1
    exact .lst (SqL.of h2) (RepAll.dp ds e1 h3)
  | .tup ds, v, p, e, ⟨a, xs, h1, h2, h3⟩ => by
    unfold D.py at e
    obtain ⟨ps, e1, e2⟩ := Option.map_eq_some_iff.mp e
    subst e2 h1
    exact .tup h2 (RepAll.dp ds e1 h3)
  | .dct _ _, _, _, e, _ => by simp [D.py] at e
  | .ins _ _, _, _, e, _ => by simp [D.py] at e
  | .deck, _, _, e, _ => by simp [D.py] at e
theorem RepAll.dp : ∀ (ds : List D) {vs : List V} {ps : List PyData}, D.pys ds = some ps → RepAll K G H vs ds → DpAll K H vs ps
  | [], vs, ps, e, r => by
    have e : ps = [] := (Option.some.inj (by simpa [D.pys] using e)).symm
    have r : vs = [] := r
    subst e r
    exact .nil
  | d :: ds, vs, ps, e, ⟨x, xs, h1, h2, h3⟩ => by
    unfold D.pys at e
    obtain ⟨p, e1, e2⟩ := Option.bind_eq_some_iff.mp e
    obtain ⟨qs, e3, e4⟩ := Option.map_eq_some_iff.mp e2
    subst e4 h1
    exact .cons (Rep.dp d e1 h2) (RepAll.dp ds e3 h3)
end
theorem pys_ints : ∀ ns : List Int, D.pys (ns.map D.int) = some (ns.map PyData.int)
  | [] => by simp [D.pys]
  | n :: ns => by simp [D.pys, D.py, pys_ints ns]
theorem py_int (i : Int) : (D.int i).py = some (.int i) := by simp [D.py]
theorem py_bl (i : Bool) : (D.bl i).py = some (.bool i) := by simp [D.py]
theorem py_str (i : Str) : (D.str i).py = some (.str i) := by simp [D.py]
theorem py_non : D.non.py = some .none := by simp [D.py]
theorem py_ints (ns : List Int) : (D.lst (ns.map D.int)).py = some (.list (ns.map PyData.int)) := by simp [D.py, pys_ints]
theorem py_tints (ns : List Int) : (D.tup (ns.map D.int)).py = some (.tuple (ns.map PyData.int)) := by simp [D.py, pys_ints]
end

section
variable {K : PySem.W.Frag} {G : Gx} {M : List Addr} {H H' : Hp}
theorem rn_int {i : Int} : RN K G M H H' (.int i) (.sh (.int i)) := rfl
theorem rn_bl {i : Bool} : RN K G M H H' (.bl i) (.sh (.bl i)) := rfl
theorem rn_str {i : Str} : RN K G M H H' (.str i) (.sh (.str i)) := rfl
theorem rn_non : RN K G M H H' .non (.sh .non) := rfl
theorem rn_sh {v : V} {d : D} (h : Rep K G (mask M H') v d) : RN K G M H H' v (.sh d) := h
theorem rn_lst {p : Addr} {xs : List V} {ds : List D} (hp : H p = none) (r : RepAll K G (mask M H) xs ds) : RN K G M H (upd H p (.lst xs)) (.ref p) (.fr (.lst ds)) := ⟨p, rfl, hp, xs, upd_same, r.mono (mask_new hp (same_new hp))⟩
theorem rn_tup {p : Addr} {xs : List V} {ds : List D} (al : ∀ a ∈ M, H a ≠ none) (hp : H p = none) (r : RepAll K G (mask M H) xs ds) : RN K G M H (upd H p (.tup xs)) (.ref p) (.sh (.tup ds)) :=
  ⟨p, xs, rfl, SqT.of (by rw [mask_out fun z => al p z hp, upd_same]), r.mono (mask_mono (same_new hp))⟩
theorem RB.shT {v : V} {ds : List D} (h : RB K G M H v (.tup ds)) : Rep K G (mask M H) v (.tup ds) := by
  rcases h with z | ⟨p, z, w⟩
  · exact z
  · exact w.elim
theorem RB.dp {v : V} {d : D} {p : PyData} (h : RB K G M H v d) (e : d.py = some p) : Dp K H v p := Rep.dp d e h.full
end
def fNeg : F1
  | .int i, Q => Q (.sh (.int (-i)))
  | _, _ => False
@[simp] theorem fNeg_0  (i : Int) (Q : RD → Prop) : fNeg (.int i) Q = (Q (.sh (.int (-i)))) := rfl
def fI (C : Int → Int → Prop) (g : Int → Int → Int) : F2
  | .int i, .int j, Q => C i j ∧ Q (.sh (.int (g i j)))
  | _, _, _ => False
@[simp] theorem fI_0 (C : Int → Int → Prop) (g : Int → Int → Int) (i : Int) (j : Int) (Q : RD → Prop) : fI C g (.int i) (.int j) Q = (C i j ∧ Q (.sh (.int (g i j)))) := rfl
def fIB (g : Int → Int → Bool) : F2
  | .int i, .int j, Q => Q (.sh (.bl (g i j)))
  | _, _, _ => False
@[simp] theorem fIB_0 (g : Int → Int → Bool) (i : Int) (j : Int) (Q : RD → Prop) : fIB g (.int i) (.int j) Q = (Q (.sh (.bl (g i j)))) := rfl
section
variable {X : Cx} {K : PySem.W.Frag} {G : Gx}
theorem ops_I {C : Int → Int → Prop} {g : Int → Int → Int} : OpS K G (rI C fun i j => .int (g i j)) (fI C g) := fun M H x y d e al bx by' Qd h Q k => by
  cases d <;> cases e <;> first | exact h.elim | skip
  obtain ⟨hc, h⟩ := h
  exact ⟨_, _, bx.int, by'.int, hc, k _ _ H (Same.refl _) rn_int h⟩
theorem ops_I0 {g : Int → Int → Int} : OpS K G (rI0 fun i j => .int (g i j)) (fI (fun _ _ => True) g) := fun M H x y d e al bx by' Qd h Q k => by
  cases d <;> cases e <;> first | exact h.elim | skip
  obtain ⟨_, h⟩ := h
  exact ⟨_, _, bx.int, by'.int, k _ _ H (Same.refl _) rn_int h⟩
theorem ops_IB {g : Int → Int → Bool} : OpS K G (rI0 fun i j => .bl (g i j)) (fIB g) := fun M H x y d e al bx by' Qd h Q k => by
  cases d <;> cases e <;> first | exact h.elim | skip
  exact ⟨_, _, bx.int, by'.int, k _ _ H (Same.refl _) rn_bl h⟩
theorem OpS.or {r r' : R2} {f f' g : F2} (h : OpS K G r f) (h' : OpS K G r' f') (hg : ∀ d e Q, g d e Q → f d e Q ∨ f' d e Q) : OpS K G (fun x y H Q => r x y H Q ∨ r' x y H Q) g := fun M H x y d e al bx by' Qd q Q k => by
  rcases hg d e Qd q with q | q
  · exact .inl (h M H x y d e al bx by' Qd q Q k)
  · exact .inr (h' M H x y d e al bx by' Qd q Q k)
def fAdd : F2
  | .int i, .int j, Q => Q (.sh (.int (i + j)))
  | .str i, .str j, Q => i.length + j.length ≤ 16777216 ∧ Q (.sh (.str (i ++ j)))
  | .lst i, .lst j, Q => i.length + j.length ≤ 16777216 ∧ Q (.fr (.lst (i ++ j)))
  | .tup i, .tup j, Q => i.length + j.length ≤ 16777216 ∧ Q (.sh (.tup (i ++ j)))
  | _, _, _ => False
@[simp] theorem fAdd_0  (i : Int) (j : Int) (Q : RD → Prop) : fAdd (.int i) (.int j) Q = (Q (.sh (.int (i + j)))) := rfl
@[simp] theorem fAdd_1  (i : Str) (j : Str) (Q : RD → Prop) : fAdd (.str i) (.str j) Q = (i.length + j.length ≤ 16777216 ∧ Q (.sh (.str (i ++ j)))) := rfl
@[simp] theorem fAdd_2  (i : List D) (j : List D) (Q : RD → Prop) : fAdd (.lst i) (.lst j) Q = (i.length + j.length ≤ 16777216 ∧ Q (.fr (.lst (i ++ j)))) := rfl
@[simp] theorem fAdd_3  (i : List D) (j : List D) (Q : RD → Prop) : fAdd (.tup i) (.tup j) Q = (i.length + j.length ≤ 16777216 ∧ Q (.sh (.tup (i ++ j)))) := rfl
def rAddA (K : PySem.W.Frag) : R2 := fun x y H Q => (rI0 fun i j => .int (i + j)) x y H Q ∨ (∃ i j, x = .str i ∧ y = .str j ∧ i.length + j.length ≤ sizeLine ∧ Q (.str (i ++ j)) H) ∨ rCat x y H Q ∨ rCatA K x y H Q
theorem op_addA : OpR X (binaryOp .Add) (rAddA X.K) := op_add.or (op_add_str.or (op_cat.or op_catA))
theorem ops_add : OpS K G (rAddA K) fAdd := fun M H x y d e al bx by' Qd h Q k => by
  cases d <;> cases e <;> first | exact h.elim | skip
  · exact .inl ⟨_, _, bx.int, by'.int, k _ _ H (Same.refl _) rn_int h⟩
  · obtain ⟨hc, h⟩ := h
    exact .inr (.inl ⟨_, _, bx.str, by'.str, by rw [line16]; exact hc, k _ _ H (Same.refl _) rn_str h⟩)
  · obtain ⟨hc, h⟩ := h
    obtain ⟨a, xs, rfl, ha, ra⟩ := bx.lst
    obtain ⟨b, ys, rfl, hb, rb⟩ := by'.lst
    exact .inr (.inr (.inl ⟨a, b, xs, ys, rfl, rfl, ha, hb, by rw [ra.length, rb.length, line16]; exact hc, fun p hp => k _ _ _ (same_new hp) (rn_lst hp (ra.append rb)) h⟩))
  · obtain ⟨hc, h⟩ := h
    obtain ⟨a, xs, rfl, ha, ra⟩ := bx.tup
    obtain ⟨b, ys, rfl, hb, rb⟩ := by'.tup
    refine .inr (.inr (.inr ⟨a, b, xs, ys, rfl, rfl, ha, hb, by rw [ra.length, rb.length, line16]; exact hc, fun q => ?_, fun _ q => ?_, fun _ _ p hp => k _ _ _ (same_new hp) (rn_tup al hp (ra.append rb)) h⟩))
    · subst q
      have := ra.length
      have e0 := List.length_eq_zero_iff.mp this.symm
      subst e0
      exact k _ _ H (Same.refl _) (rn_sh by'.shT) h
    · subst q
      have := rb.length
      have e0 := List.length_eq_zero_iff.mp this.symm
      subst e0
      rw [List.append_nil] at h
      exact k _ _ H (Same.refl _) (rn_sh bx.shT) h
def fMul : F2
  | .int i, .int j, Q => CMulW i j ∧ Q (.sh (.int (i * j)))
  | .lst ds, .int j, Q => j < 2 ^ 62 ∧ -(2 ^ 62) ≤ j ∧ ds.length * j.toNat ≤ 16777216 ∧ Q (.fr (.lst (List.replicate j.toNat ds).flatten))
  | _, _, _ => False
@[simp] theorem fMul_0  (i : Int) (j : Int) (Q : RD → Prop) : fMul (.int i) (.int j) Q = (CMulW i j ∧ Q (.sh (.int (i * j)))) := rfl
@[simp] theorem fMul_1  (ds : List D) (j : Int) (Q : RD → Prop) : fMul (.lst ds) (.int j) Q = (j < 2 ^ 62 ∧ -(2 ^ 62) ≤ j ∧ ds.length * j.toNat ≤ 16777216 ∧ Q (.fr (.lst (List.replicate j.toNat ds).flatten))) := rfl
def rMulA : R2 := fun x y H Q => (rI CMulW fun i j => .int (i * j)) x y H Q ∨ rRep x y H Q
theorem op_mulA : OpR X (binaryOp .Mult) rMulA := op_mulW.or op_rep
theorem RepAll.rep {M : List Addr} {H : Hp} {xs : List V} {ds : List D} (h : RepAll K G (mask M H) xs ds) : ∀ n : Nat, RepAll K G (mask M H) (List.replicate n xs).flatten (List.replicate n ds).flatten
  | 0 => rfl
  | n + 1 => by
    rw [List.replicate_succ, List.replicate_succ, List.flatten_cons, List.flatten_cons]
    exact h.append (RepAll.rep h n)
theorem ops_mul : OpS K G rMulA fMul := fun M H x y d e al bx by' Qd h Q k => by
  cases d <;> cases e <;> first | exact h.elim | skip
  · obtain ⟨hc, h⟩ := h
    exact .inl ⟨_, _, bx.int, by'.int, hc, k _ _ H (Same.refl _) rn_int h⟩
  · obtain ⟨h1, h2, h3, h⟩ := h
    obtain ⟨a, xs, rfl, ha, ra⟩ := bx.lst
    exact .inr ⟨a, _, xs, rfl, by'.int, ha, by omega, by omega, by rw [ra.length, line16]; exact h3, fun p hp => k _ _ _ (same_new hp) (rn_lst hp (ra.rep _)) h⟩
/-- // by anything but 0 below 2 ^ 9000 -/
def CDivA (_ j : Int) : Prop := j ≠ 0 ∧ j.natAbs.log2 < 9000
theorem op_fdivA : OpR X (binaryOp .FloorDiv) (rI CDivA fun i j => .int (i.fdiv j)) := opI fun _ _ _ _ _ _ _ hc q => PyProof.Rows.floordiv_int hc.1 q (.inl (PyProof.noPylong_of_log2 hc.2))
def eqD (neg : Bool) (d e : D) (Q : RD → Prop) : Prop := ∃ p q, d.py = some p ∧ e.py = some q ∧ SeqAt.shaped p = true ∧ SeqAt.shaped q = true ∧ Q (.sh (.bl (if neg then !PyData.eqv p q else PyData.eqv p q)))
def fEq (neg : Bool) : F2
  | .int i, .int j, Q => Q (.sh (.bl (if neg then !decide (i = j) else decide (i = j))))
  | .str i, .str j, Q => Q (.sh (.bl (if neg then !decide (i = j) else decide (i = j))))
  | .bl i, .bl j, Q => Q (.sh (.bl (if neg then !decide (i = j) else decide (i = j))))
  | d, e, Q => eqD neg d e Q
@[simp] theorem fEq_0 (neg : Bool) (i : Int) (j : Int) (Q : RD → Prop) : fEq neg (.int i) (.int j) Q = (Q (.sh (.bl (if neg then !decide (i = j) else decide (i = j))))) := rfl
@[simp] theorem fEq_1 (neg : Bool) (i : Str) (j : Str) (Q : RD → Prop) : fEq neg (.str i) (.str j) Q = (Q (.sh (.bl (if neg then !decide (i = j) else decide (i = j))))) := rfl
@[simp] theorem fEq_2 (neg : Bool) (i : Bool) (j : Bool) (Q : RD → Prop) : fEq neg (.bl i) (.bl j) Q = (Q (.sh (.bl (if neg then !decide (i = j) else decide (i = j))))) := rfl
@[simp] theorem fEq_lst (neg : Bool) (a b : List D) (Q : RD → Prop) : fEq neg (.lst a) (.lst b) Q = eqD neg (.lst a) (.lst b) Q := rfl
@[simp] theorem fEq_tup (neg : Bool) (a b : List D) (Q : RD → Prop) : fEq neg (.tup a) (.tup b) Q = eqD neg (.tup a) (.tup b) Q := rfl
def rEqA (K : PySem.W.Frag) : R2 := fun x y H Q => rEq x y H Q ∨ rEqD K x y H Q
def rNeA (K : PySem.W.Frag) : R2 := fun x y H Q => rNe x y H Q ∨ rNeD K x y H Q
theorem op_eqA (hu : X.A.units + 64 < cLine) : OpR X (compareOp .Eq) (rEqA X.K) := op_eq.or (op_eqD hu)
theorem op_neA (hu : X.A.units + 64 < cLine) : OpR X (compareOp .NotEq) (rNeA X.K) := op_ne.or (op_neD hu)
theorem dec_i {i j : Int} : decide (V.int i = V.int j) = decide (i = j) := by simp
theorem dec_s {i j : Str} : decide (V.str i = V.str j) = decide (i = j) := by simp
theorem dec_b {i j : Bool} : decide (V.bl i = V.bl j) = decide (i = j) := by simp
theorem ops_eq : OpS K G (rEqA K) (fEq false) := fun M H x y d e al bx by' Qd h Q k => by
  have deep : (∃ p q, d.py = some p ∧ e.py = some q ∧ SeqAt.shaped p = true ∧ SeqAt.shaped q = true ∧ Qd (.sh (.bl (PyData.eqv p q)))) → rEqA K x y H Q := fun ⟨p, q, e1, e2, s1, s2, z⟩ =>
    .inr ⟨p, q, bx.dp e1, by'.dp e2, s1, s2, k _ _ H (Same.refl _) rn_bl z⟩
  cases d <;> cases e <;> first
    | exact deep h
    | exact .inl (by
        have e1 := bx.int
        have e2 := by'.int
        subst e1 e2
        exact ⟨rfl, by rw [dec_i]; exact k _ _ H (Same.refl _) rn_bl h⟩)
    | exact .inl (by
        have e1 := bx.str
        have e2 := by'.str
        subst e1 e2
        exact ⟨rfl, by rw [dec_s]; exact k _ _ H (Same.refl _) rn_bl h⟩)
    | exact .inl (by
        have e1 := bx.bl
        have e2 := by'.bl
        subst e1 e2
        exact ⟨rfl, by rw [dec_b]; exact k _ _ H (Same.refl _) rn_bl h⟩)
theorem ops_ne : OpS K G (rNeA K) (fEq true) := fun M H x y d e al bx by' Qd h Q k => by
  have deep : (∃ p q, d.py = some p ∧ e.py = some q ∧ SeqAt.shaped p = true ∧ SeqAt.shaped q = true ∧ Qd (.sh (.bl (!PyData.eqv p q)))) → rNeA K x y H Q := fun ⟨p, q, e1, e2, s1, s2, z⟩ =>
    .inr ⟨p, q, bx.dp e1, by'.dp e2, s1, s2, k _ _ H (Same.refl _) rn_bl z⟩
  cases d <;> cases e <;> first
    | exact deep h
    | exact .inl (by
        have e1 := bx.int
        have e2 := by'.int
        subst e1 e2
        exact ⟨rfl, by rw [dec_i]; exact k _ _ H (Same.refl _) rn_bl h⟩)
    | exact .inl (by
        have e1 := bx.str
        have e2 := by'.str
        subst e1 e2
        exact ⟨rfl, by rw [dec_s]; exact k _ _ H (Same.refl _) rn_bl h⟩)
    | exact .inl (by
        have e1 := bx.bl
        have e2 := by'.bl
        subst e1 e2
        exact ⟨rfl, by rw [dec_b]; exact k _ _ H (Same.refl _) rn_bl h⟩)
def fIs (neg : Bool) : F2
  | .non, .non, Q => Q (.sh (.bl (!neg)))
  | _, .non, Q => Q (.sh (.bl neg))
  | _, _, _ => False
@[simp] theorem fIs_0 (neg : Bool) (Q : RD → Prop) : fIs neg .non .non Q = (Q (.sh (.bl (!neg)))) := rfl
@[simp] theorem fIs_int (neg : Bool) (x : Int) (Q : RD → Prop) : fIs neg (.int x) .non Q = Q (.sh (.bl neg)) := rfl
@[simp] theorem fIs_str (neg : Bool) (x : Str) (Q : RD → Prop) : fIs neg (.str x) .non Q = Q (.sh (.bl neg)) := rfl
@[simp] theorem fIs_bl (neg : Bool) (x : Bool) (Q : RD → Prop) : fIs neg (.bl x) .non Q = Q (.sh (.bl neg)) := rfl
@[simp] theorem fIs_lst (neg : Bool) (x : List D) (Q : RD → Prop) : fIs neg (.lst x) .non Q = Q (.sh (.bl neg)) := rfl
@[simp] theorem fIs_tup (neg : Bool) (x : List D) (Q : RD → Prop) : fIs neg (.tup x) .non Q = Q (.sh (.bl neg)) := rfl
theorem ops_isN : OpS K G (fun x y H Q => y = .non ∧ Q (.bl (decide (x = .non))) H) (fIs false) := fun M H x y d e al bx by' Qd h Q k => by
  have fin : ∀ b, decide (x = V.non) = b → Qd (.sh (.bl b)) → Q (.bl (decide (x = V.non))) H := fun b e q => by rw [e]; exact k _ _ H (Same.refl _) rn_bl q
  cases e <;> first | (cases d <;> exact h.elim) | skip
  refine ⟨by'.non, ?_⟩
  cases d with
  | non => exact fin true (by rw [bx.non]; rfl) h
  | bl b => exact fin false (by rw [bx.bl]; rfl) h
  | int b => exact fin false (by rw [bx.int]; rfl) h
  | str b => exact fin false (by rw [bx.str]; rfl) h
  | lst b => obtain ⟨p, _, e, _⟩ := bx.lst; exact fin false (by rw [e]; rfl) h
  | tup b => obtain ⟨p, _, e, _⟩ := bx.tup; exact fin false (by rw [e]; rfl) h
  | dct a b => obtain ⟨p, _, e, _⟩ := bx.dct; exact fin false (by rw [e]; rfl) h
  | ins a b => obtain ⟨p, _, _, e, _⟩ := bx.full; exact fin false (by rw [e]; rfl) h
  | deck => exact fin false (by rw [show x = V.ref G.deck from bx.full]; rfl) h
theorem ops_notN : OpS K G (fun x y H Q => y = .non ∧ Q (.bl (!decide (x = .non))) H) (fIs true) := fun M H x y d e al bx by' Qd h Q k => by
  have fin : ∀ b, decide (x = V.non) = (!b) → Qd (.sh (.bl b)) → Q (.bl (!decide (x = V.non))) H := fun b e q => by rw [e, Bool.not_not]; exact k _ _ H (Same.refl _) rn_bl q
  cases e <;> first | (cases d <;> exact h.elim) | skip
  refine ⟨by'.non, ?_⟩
  cases d with
  | non => exact fin false (by rw [bx.non]; rfl) h
  | bl b => exact fin true (by rw [bx.bl]; rfl) h
  | int b => exact fin true (by rw [bx.int]; rfl) h
  | str b => exact fin true (by rw [bx.str]; rfl) h
  | lst b => obtain ⟨p, _, e, _⟩ := bx.lst; exact fin true (by rw [e]; rfl) h
  | tup b => obtain ⟨p, _, e, _⟩ := bx.tup; exact fin true (by rw [e]; rfl) h
  | dct a b => obtain ⟨p, _, e, _⟩ := bx.dct; exact fin true (by rw [e]; rfl) h
  | ins a b => obtain ⟨p, _, _, e, _⟩ := bx.full; exact fin true (by rw [e]; rfl) h
  | deck => exact fin true (by rw [show x = V.ref G.deck from bx.full]; rfl) h
def D.flat : D → Bool
  | .non => true
  | .bl _ => true
  | .int _ => true
  | .str _ => true
  | _ => false
def D.v : D → V
  | .bl b => .bl b
  | .int i => .int i
  | .str x => .str x
  | _ => .non
def inD (d : D) (ds : List D) : Bool := inV d.v (ds.map D.v)
theorem RB.flat {M : List Addr} {H : Hp} {v : V} {d : D} (h : RB K G M H v d) (f : d.flat = true) : v = d.v ∧ flatV v = true := by
  cases d with
  | non => have := h.non; subst this; exact ⟨rfl, rfl⟩
  | bl b => have := h.bl; subst this; exact ⟨rfl, rfl⟩
  | int b => have := h.int; subst this; exact ⟨rfl, rfl⟩
  | str b => have := h.str; subst this; exact ⟨rfl, rfl⟩
  | _ => cases f
theorem RepAll.flat {H : Hp} : ∀ {ds : List D} {xs : List V}, RepAll K G H xs ds → (ds.all D.flat) = true → xs = ds.map D.v ∧ xs.all flatV = true
  | [], xs, h, _ => by
    have h : xs = [] := h
    subst h; exact ⟨rfl, rfl⟩
  | d :: ds, xs, ⟨x, ys, e, r, t⟩, f => by
    subst e
    rw [List.all_cons, Bool.and_eq_true] at f
    obtain ⟨a, b⟩ := t.flat f.2
    obtain ⟨a', b'⟩ := RB.flat (M := []) (H := H) (.inl (r.mono fun b o e => by rw [mask_out (by simp)]; exact e)) f.1
    subst a a'
    exact ⟨rfl, by rw [List.all_cons, b', b]; rfl⟩
def fIn (neg : Bool) : F2
  | d, .lst ds, Q => d.flat = true ∧ ds.all D.flat = true ∧ Q (.sh (.bl (if neg then !inD d ds else inD d ds)))
  | d, .tup ds, Q => d.flat = true ∧ ds.all D.flat = true ∧ Q (.sh (.bl (if neg then !inD d ds else inD d ds)))
  | _, _, _ => False
@[simp] theorem fIn_0 (neg : Bool) (d : D) (ds : List D) (Q : RD → Prop) : fIn neg d (.lst ds) Q = (d.flat = true ∧ ds.all D.flat = true ∧ Q (.sh (.bl (if neg then !inD d ds else inD d ds)))) := rfl
@[simp] theorem fIn_1 (neg : Bool) (d : D) (ds : List D) (Q : RD → Prop) : fIn neg d (.tup ds) Q = (d.flat = true ∧ ds.all D.flat = true ∧ Q (.sh (.bl (if neg then !inD d ds else inD d ds)))) := rfl
theorem ops_in {neg : Bool} : OpS K G (rIn K neg) (fIn neg) := fun M H x y d e al bx by' Qd h Q k => by
  cases e <;> first | exact h.elim | skip
  · obtain ⟨f1, f2, h⟩ := h
    obtain ⟨a, xs, rfl, ha, ra⟩ := by'.lst
    obtain ⟨e1, e2⟩ := bx.flat f1
    obtain ⟨e3, e4⟩ := ra.flat f2
    refine ⟨a, xs, rfl, .inl (SqL.of ha), e2, e4, ?_⟩
    rw [e1, e3]
    exact k _ _ H (Same.refl _) rn_bl h
  · obtain ⟨f1, f2, h⟩ := h
    obtain ⟨a, xs, rfl, ha, ra⟩ := by'.tup
    obtain ⟨e1, e2⟩ := bx.flat f1
    obtain ⟨e3, e4⟩ := ra.flat f2
    refine ⟨a, xs, rfl, .inr ha, e2, e4, ?_⟩
    rw [e1, e3]
    exact k _ _ H (Same.refl _) rn_bl h
def fIx : F2
  | .lst ds, .int i, Q => ∃ x, atI ds i = some x ∧ Q (.sh x)
  | .tup ds, .int i, Q => ∃ x, atI ds i = some x ∧ Q (.sh x)
  | .str z, .int i, Q => ∃ c, z.length ≤ 16777216 ∧ atI z.cps.toList i = some c ∧ Q (.sh (.str ⟨#[c]⟩))
  | _, _, _ => False
@[simp] theorem fIx_0  (ds : List D) (i : Int) (Q : RD → Prop) : fIx (.lst ds) (.int i) Q = (∃ x, atI ds i = some x ∧ Q (.sh x)) := rfl
@[simp] theorem fIx_1  (ds : List D) (i : Int) (Q : RD → Prop) : fIx (.tup ds) (.int i) Q = (∃ x, atI ds i = some x ∧ Q (.sh x)) := rfl
@[simp] theorem fIx_2  (z : Str) (i : Int) (Q : RD → Prop) : fIx (.str z) (.int i) Q = (∃ c, z.length ≤ 16777216 ∧ atI z.cps.toList i = some c ∧ Q (.sh (.str ⟨#[c]⟩))) := rfl
theorem RepAll.atI {H : Hp} {xs : List V} {ds : List D} {i : Int} {d : D} (r : RepAll K G H xs ds) (h : L2.atI ds i = some d) : ∃ v, L2.atI xs i = some v ∧ Rep K G H v d := by
  unfold L2.atI at h ⊢
  rw [r.length]
  obtain ⟨j, h1, h2⟩ := Option.bind_eq_some_iff.mp h
  obtain ⟨v, h3, h4⟩ := r.get h2
  exact ⟨v, by rw [h1]; exact h3, h4⟩
theorem ops_ix : OpS K G (rIx K) fIx := fun M H x y d e al bx by' Qd h Q k => by
  cases d <;> cases e <;> first | exact h.elim | skip
  · obtain ⟨c, h1, h2, h⟩ := h
    exact .inr (.inr ⟨_, _, c, bx.str, by'.int, by rw [line16]; exact h1, h2, k _ _ H (Same.refl _) rn_str h⟩)
  · obtain ⟨x, h1, h⟩ := h
    obtain ⟨a, xs, rfl, ha, ra⟩ := bx.lst
    obtain ⟨v, h2, rv⟩ := ra.atI h1
    exact .inl ⟨a, xs, _, v, rfl, by'.int, SqL.of ha, h2, k _ _ H (Same.refl _) (rn_sh rv) h⟩
  · obtain ⟨x, h1, h⟩ := h
    obtain ⟨a, xs, rfl, ha, ra⟩ := bx.tup
    obtain ⟨v, h2, rv⟩ := ra.atI h1
    exact .inr (.inl ⟨a, xs, _, v, rfl, by'.int, ha, h2, k _ _ H (Same.refl _) (rn_sh rv) h⟩)
variable {a b : Expr} {ta tb : TE} {wa wb : WE} {pos : Pos}
theorem de_ix (ha : DE X G a ta wa) (hb : DE X G b tb wb) (hs : PlainIx b := by exact fun _ _ => rfl) : DE X G (.Subscript a b pos) (tOp (rIx X.K) ta tb) (wOp fIx wa wb) := ⟨pe_ix ix_seq ha.pe hb.pe hs, fun E => sim_op ops_ix (ha.sim E) (hb.sim E)⟩
theorem de_add (ha : DE X G a ta wa) (hb : DE X G b tb wb) : DE X G (.BinOp a .Add b pos) (tOp (rAddA X.K) ta tb) (wOp fAdd wa wb) := de_op op_addA ops_add ha hb
theorem de_sub (ha : DE X G a ta wa) (hb : DE X G b tb wb) : DE X G (.BinOp a .Sub b pos) (tOp (rI0 fun i j => .int (i - j)) ta tb) (wOp (fI (fun _ _ => True) fun i j => i - j) wa wb) := de_op op_sub ops_I0 ha hb
theorem de_mul (ha : DE X G a ta wa) (hb : DE X G b tb wb) : DE X G (.BinOp a .Mult b pos) (tOp rMulA ta tb) (wOp fMul wa wb) := de_op op_mulA ops_mul ha hb
theorem de_fdiv (ha : DE X G a ta wa) (hb : DE X G b tb wb) : DE X G (.BinOp a .FloorDiv b pos) (tOp (rI CDivA fun i j => .int (i.fdiv j)) ta tb) (wOp (fI CDivA Int.fdiv) wa wb) := de_op op_fdivA ops_I ha hb
theorem de_mod (ha : DE X G a ta wa) (hb : DE X G b tb wb) : DE X G (.BinOp a .Mod b pos) (tOp (rI (fun _ j => j ≠ 0) fun i j => .int (i.fmod j)) ta tb) (wOp (fI (fun _ j => j ≠ 0) Int.fmod) wa wb) := de_op op_modN ops_I ha hb
theorem de_pow (ha : DE X G a ta wa) (hb : DE X G b tb wb) : DE X G (.BinOp a .Pow b pos) (tOp (rI CPow fun i j => .int (i ^ j.toNat)) ta tb) (wOp (fI CPow fun i j => i ^ j.toNat) wa wb) := de_op op_pow ops_I ha hb
theorem de_neg (ha : DE X G a ta wa) : DE X G (.UnaryOp .USub a pos) (tUn (rU fun i => .int (-i)) ta) (wUn fNeg wa) := de_un un_neg (fun M H x d al bx Qd h Q k => by
  cases d <;> first | exact h.elim | skip
  exact ⟨_, bx.int, k _ _ H (Same.refl _) rn_int h⟩) ha
end
end L3
namespace L3
open PySem L2
@[simp] abbrev fLt : F2 := fIB fun i j => decide (i < j)
@[simp] abbrev fLe : F2 := fIB fun i j => decide (i ≤ j)
@[simp] abbrev fGt : F2 := fIB fun i j => decide (j < i)
@[simp] abbrev fGe : F2 := fIB fun i j => decide (j ≤ i)
@[simp] abbrev fSub : F2 := fI (fun _ _ => True) fun i j => i - j
@[simp] abbrev fFdiv : F2 := fI CDivA Int.fdiv
@[simp] abbrev fMod : F2 := fI (fun _ j => j ≠ 0) Int.fmod
@[simp] abbrev fPow : F2 := fI CPow fun i j => i ^ j.toNat
end L3
namespace L3
open PySem PySem.Spec PyProof.Rows L2
structure FnG (P : Program) (w : World) (K : PySem.W.Frag) (mg : Str → Option Value) (base : Heap) (CX : CXT) (k : Nat) (f : Addr) (fd : FuncData) (ps : List Str) (sp : Sp) : Prop where
  len : ∀ vs H Q E, sp vs H Q E → vs.length = ps.length
  go : ∀ (A : Around) (outer : List Env) (s : Shared) (H : Hp) (args : Args) (us : List Value) (vs : List V) (Q : VK) (E : XK), (Room k A ∧ A.guards = some []) → Env0 P w K mg base A outer s H →
    BindsTo s fd args (ps.zip us) → Vals vs us → sp vs H Q E → codeAny (model P w) A (.call (.ref f) args) (CR CX outer P w H s Q E) s
/-- a def of the text as it stands -/
def FunB (K : PySem.W.Frag) (x qual : Str) (params : Arguments) (body : List Stmt) (scope : Scope) (f : Addr) (fd : FuncData) : Prop :=
  ∃ (oc : Value) (od : Option Addr) (dV kV doc pm : Value) (an : Option Addr) (cdv ct : Value) (osl : Array (Option Value)),
    fd = PySem.W.fnOf x qual params body scope dV kV doc pm an cdv ct ∧ K.lookup f = some ⟨oc, od, .func fd, osl⟩ ∧ PySem.W.codeIn K cdv qual = true
theorem FunB.ofD {K : PySem.W.Frag} {x qual : Str} {params : Arguments} {body : List Stmt} {scope : Scope} {dvs : List V} {kws : List (Str × V)} {f : Addr} {fd : FuncData} (F : FunD K x qual params body scope dvs kws f fd) : FunB K x qual params body scope f fd := by
  obtain ⟨oc, od, dV, kV, doc, pm, an, cdv, ct, osl, h1, h2, h3, _⟩ := F.ex
  exact ⟨oc, od, dV, kV, doc, pm, an, cdv, ct, osl, h1, h2, h3⟩
theorem FunB.of {K : PySem.W.Frag} {x qual : Str} {st : Stmt} {f : Addr} {fd : FuncData} (F : Fun K x qual st f fd) : FunB K x qual (defArgs st) (defBody st) (defScope st) f fd := by
  obtain ⟨oc, od, kV, doc, pm, an, cdv, ct, osl, h1, h2, h3⟩ := F.ex
  exact ⟨oc, od, _, kV, doc, pm, an, cdv, ct, osl, h1, h2, h3⟩
section
variable {P : Program} {w : World} {K : PySem.W.Frag} {mg : Str → Option Value} {base : Heap} {CX : CXT} {k : Nat} {f : Addr} {fd : FuncData} {ps N : List Str} {sp : Sp} {x qual : Str} {params : Arguments} {body : List Stmt} {scope : Scope}
/-- a def keeps its promise if its body does -/
theorem FnG.of (F : FunB K x qual params body scope f fd) (S : FnScope N ps scope) (len : ∀ vs H Q E, sp vs H Q E → vs.length = ps.length)
    (hb : ∀ (cdv : Value) (A : Around) (outer : List Env) (s : Shared) (H : Hp) (vs : List V) (Q : VK) (E : XK), Room k (A.deeper (envOfC qual scope s.heap.objs.size f cdv)) → A.guards = some [] → sp vs H Q E →
      ∃ t, PSs (cxOf CX P w K mg base N qual scope f cdv A outer s H E) body t ∧ t { nx := fun _ H' => Q .non H', rt := Q } (start N vs) H) : FnG P w K mg base CX (k + 1) f fd ps sp := by
  obtain ⟨oc, od, dV, kV, doc, pm, an, cdv, ct, osl, rfl, lk, hcd⟩ := F
  refine ⟨len, fun A outer s H args us vs Q E ⟨hr, hg⟩ e0 bt r hsp => ?_⟩
  have hl := len vs H Q E hsp
  have keepB : ∀ b o, base.get? b = some o → s.heap.get? b = some o := fun b o e => (e0.bs b o e).1
  have kx : K.In s.heap := e0.mod.kin.keeps keepB
  have nl : s.heap.NoLimit := e0.mod.nolimit.keeps keepB
  refine codeAny_call_function hr.depth (kx _ _ lk) rfl S.co S.gen rfl (PySem.W.codeRec_of kx hcd) (bt _ _ _ _ ?_)
  have kinds : ∀ y ∈ ps.zip us, scope.names.lookup y.1 = some .local ∨ (scope.names.lookup y.1 = some .cell ∧ ((cellsFrom (s.heap.objs.size + 1) scope.names []).lookup y.1).isSome = true) := by
    rintro ⟨n, v⟩ hy
    exact (S.par n (List.of_mem_zip hy).1).imp_right fun q => ⟨q, PySem.W.cellsFrom_some _ _ _ (.inl q)⟩
  refine wpAny_newFunctionEnv_cells S.kind kinds fun env he s1 ic => ?_
  subst he
  refine ⟨nl.keeps ic.toInCall.keep, codeAny_func ?_⟩
  obtain ⟨t, ht, hq⟩ := hb cdv A outer s H vs Q E (hr.deeper _) hg hsp
  have J0 : Inv (cxOf CX P w K mg base N qual scope f cdv A outer s H E) [] (start N vs) H s1 := inv_start S hr.hd e0 hl r ic
  refine wpAny_mono (ht.run [] s1 (start N vs) H _ J0 hq) (fun fl s' hs => ?_) fun _ _ z => z
  cases fl with
  | ret u => obtain ⟨v, σ', H', J, rv, q⟩ := hs; exact ⟨v, H', J.os, J.bare, J.base, J.hok, rv, q⟩
  | next => obtain ⟨σ', H', J, q⟩ := hs; exact ⟨V.non, H', J.os, J.bare, J.base, J.hok, rfl, q⟩
  | brk => obtain ⟨_, _, _, q⟩ := hs; cases q
  | cont => obtain ⟨_, _, _, q⟩ := hs; cases q
theorem FnG.mono {j : Nat} (F : FnG P w K mg base CX j f fd ps sp) (h : j ≤ k) : FnG P w K mg base CX k f fd ps sp := ⟨F.len, fun A outer s H args us vs Q E ⟨hr, hg⟩ => F.go A outer s H args us vs Q E ⟨hr.mono h, hg⟩⟩
theorem FnG.ofOk (F : FnOk P w K mg base CX k f fd ps sp) : FnG P w K mg base CX k f fd ps sp := ⟨F.len, fun A outer s H args us vs Q E ⟨hr, _⟩ => F.run A outer s H args us vs Q E hr⟩
end
section
variable {X : Cx} {CX : CXT} {k : Nat} {f C : Addr} {fd : FuncData} {ps ks : List Str} {sp : Sp} {dvs : List V} {ds : List Value} {E : XK} {x m : Str} {p pos apos : Pos} {e o : Expr} {es : List Expr} {kws : List Keyword} {ta : TE} {t tk : TA}
theorem FnG.call {pins : List (Addr × Obj)} {σ : L2.St} {H : Hp} {s : Shared} {Q : VK} {args : Args} {us : List Value} {vs : List V} (F : FnG X.prog X.w X.K X.mg X.base CX k f fd ps sp) (hr : Room k X.A) (hg : X.A.guards = some []) (hx : Passes CX X E)
    (I : Inv X pins σ H s) (bt : us.length = ps.length → BindsTo s fd args (ps.zip us)) (r : Vals vs us) (h : sp vs H Q E) : codeAny (model X.prog X.w) X.A (.call (.ref f) args) (fun q s' => match q with | .ok (.ret u) => EP X pins σ Q u s' | .ok _ => False | .error e => X.xe e s') s := by
  have hl : us.length = ps.length := by rw [← r.length]; exact F.len vs H Q E h
  refine codeAny_mono (F.go X.A X.stack s H args us vs Q E ⟨hr, hg⟩ I.env0 (bt hl) r h) fun q s' hq => ?_
  cases q with
  | error e => exact hx pins σ H s e s' I hq
  | ok fl => cases fl with
    | ret u => exact I.after hq
    | next => cases hq
    | brk => cases hq
    | cont => cases hq
theorem wp_of_code {α : Type} {M : Model} {A : Around} {fv : Value} {us : List Value} {kw : List (Str × Value)} {Q : Value → Shared → Prop} {E' : Value → Shared → Prop} {s : Shared}
    (h : codeAny M A (.call fv ⟨us, kw⟩) (fun q s' => match q with | .ok (.ret u) => Q u s' | .ok _ => False | .error e => E' e s') s) : wpAny M A (PySem.call fv us kw) Q E' s := by
  refine wpAny_call (codeAny_mono h fun q s' hq => ?_)
  cases q with
  | error e => exact hq
  | ok fl => cases fl with
    | ret u => exact hq
    | next => cases hq
    | brk => cases hq
    | cont => cases hq
theorem pg_call (F : FnG X.prog X.w X.K X.mg X.base CX k f fd ps sp) (hr : Room k X.A) (hg : X.A.guards = some []) (gl : Gl X x) (hm : X.mg x = some (.ref f)) (hk : PySem.W.keepIn X.K (.ref f) = true) (hb : Binds X.K fd ps ds) (hd : Vals dvs ds) (hx : Passes CX X E)
    (ha : PA X (e :: es) t) (hdb : (x == ("__debug__" : Str)) = false := by decide) (he : starEach (e :: es) X.env = (false, eval e X.env) :: starEach es X.env := by rfl) (hpl : (backTo pos (starEach es X.env)).any (·.1) = false := by rfl) :
    PE X (.Call (.Name x p) (e :: es) [] pos) (tCall sp dvs E t) :=
  ⟨fun pins s σ H Q I h => wpAny_Call_Name_kw (ld_glob I gl hm (PySem.W.callWith_K (h₀ := X.base) I.ok.mod.kin hk (thn (ha.run pos pins s σ H _ I h) fun us s1 ⟨vs, H1, I1, r, q⟩ =>
    ⟨I1.kIn, wp_of_code (α := Unit) (F.call hr hg hx I1 (fun hl => hb s1 us I1.kIn hl) (r.append hd) q)⟩) he hpl) hdb)⟩
theorem pg_call0 (F : FnG X.prog X.w X.K X.mg X.base CX k f fd ps sp) (hr : Room k X.A) (hg : X.A.guards = some []) (gl : Gl X x) (hm : X.mg x = some (.ref f)) (hk : PySem.W.keepIn X.K (.ref f) = true) (hb : Binds X.K fd ps ds) (hd : Vals dvs ds) (hx : Passes CX X E)
    (hdb : (x == ("__debug__" : Str)) = false := by decide) : PE X (.Call (.Name x p) [] [] pos) (tCall sp dvs E tNil) :=
  ⟨fun pins s σ H Q I h => wpAny_Call_Name_kw (ld_glob I gl hm (PySem.W.callWith_K0 I.kIn hk (wp_of_code (α := Unit) (F.call (args := ⟨[], []⟩) hr hg hx I (fun hl => hb s [] I.kIn hl) (us := [] ++ ds) (vs := [] ++ dvs) hd h))) hdb)⟩
/-- the values of some places -/
@[simp] def pick {α : Type} (perm : List Nat) (l : List α) : List α := perm.filterMap fun i => l[i]?
theorem pick_vals {perm : List Nat} {vs : List V} {us : List Value} (r : Vals vs us) : Vals (pick perm vs) (pick perm us) := by
  induction perm with
  | nil => exact .nil
  | cons i perm ih =>
    unfold pick at ih ⊢
    cases q : vs[i]? with
    | none =>
      rw [List.filterMap_cons_none q, List.filterMap_cons_none (r.none_of q)]
      exact ih
    | some v =>
      obtain ⟨u, hu, ru⟩ := r.get q
      rw [List.filterMap_cons_some q, List.filterMap_cons_some hu]
      exact .cons ru ih
/-- how a call with keywords binds: n values, then those of the keywords ks, then the defaults, of which perm picks the parameters' -/
def KB (K : PySem.W.Frag) (fd : FuncData) (ps : List Str) (n : Nat) (ks : List Str) (perm : List Nat) (ds : List Value) : Prop :=
  ∀ (s : Shared) (us ws : List Value), K.In s.heap → us.length = n → ws.length = ks.length → BindsTo s fd ⟨us, ks.zip ws⟩ (ps.zip (pick perm (us ++ ws ++ ds)))
def tCallP (sp : Sp) (n m : Nat) (perm : List Nat) (dvs : List V) (E : XK) (t tk : TA) : TE := fun σ H Q => t σ H fun vs H1 => tk σ H1 fun zs H2 => vs.length = n ∧ zs.length = m ∧ sp (pick perm (vs ++ zs ++ dvs)) H2 Q E
theorem pg_callK {n : Nat} {perm : List Nat} (F : FnG X.prog X.w X.K X.mg X.base CX k f fd ps sp) (hr : Room k X.A) (hg : X.A.guards = some []) (gl : Gl X x) (hm : X.mg x = some (.ref f)) (hk : PySem.W.keepIn X.K (.ref f) = true) (hb : KB X.K fd ps n ks perm ds) (hd : Vals dvs ds) (hx : Passes CX X E)
    (ha : PA X (e :: es) t) (hkw : PK X kws tk) (hall : (backToKw pos (keywordEach kws X.env)).all (·.1.isSome) = true := by rfl) (hks : (backToKw pos (keywordEach kws X.env)).filterMap (·.1) = ks := by rfl)
    (hdb : (x == ("__debug__" : Str)) = false := by decide) (he : starEach (e :: es) X.env = (false, eval e X.env) :: starEach es X.env := by rfl)
    (hpl : ((backTo pos (starEach (e :: es) X.env)).any (·.1) || (backToKw pos (keywordEach kws X.env)).any (·.1.isNone)) = false := by rfl) :
    PE X (.Call (.Name x p) (e :: es) kws pos) (tCallP sp n ks.length perm dvs E t tk) := by
  refine ⟨fun pins s σ H Q I h => wpAny_Call_Name_kw (ld_glob I gl hm ?_ hdb)⟩
  refine PySem.W.callWith_KW (h₀ := X.base) I.ok.mod.kin hk hall (thn (ha.run pos pins s σ H _ I h) fun us s1 ⟨vs, H1, I1, r, q⟩ => thn (hkw.run pos pins s1 σ H1 _ I1 q) fun ws s2 ⟨zs, H2, I2, rz, l1, l2, q2⟩ => ⟨I2.kIn, ?_⟩) hpl he
  rw [hks]
  exact wp_of_code (α := Unit) (F.call hr hg hx I2 (fun _ => hb s2 us ws I2.kIn (by rw [← r.length]; exact l1) (by rw [← rz.length]; exact l2)) (pick_vals ((r.append rz).append hd)) q2)
theorem pg_callK0 {perm : List Nat} (F : FnG X.prog X.w X.K X.mg X.base CX k f fd ps sp) (hr : Room k X.A) (hg : X.A.guards = some []) (gl : Gl X x) (hm : X.mg x = some (.ref f)) (hk : PySem.W.keepIn X.K (.ref f) = true) (hb : KB X.K fd ps 0 ks perm ds) (hd : Vals dvs ds) (hx : Passes CX X E)
    (hkw : PK X kws tk) (hall : (backToKw pos (keywordEach kws X.env)).all (·.1.isSome) = true := by rfl) (hks : (backToKw pos (keywordEach kws X.env)).filterMap (·.1) = ks := by rfl) (hdb : (x == ("__debug__" : Str)) = false := by decide)
    (hpl : ((backTo pos (starEach [] X.env)).any (·.1) || (backToKw pos (keywordEach kws X.env)).any (·.1.isNone)) = false := by rfl) :
    PE X (.Call (.Name x p) [] kws pos) (tCallP sp 0 ks.length perm dvs E tNil tk) := by
  refine ⟨fun pins s σ H Q I h => wpAny_Call_Name_kw (ld_glob I gl hm ?_ hdb)⟩
  refine PySem.W.callWith_KW0 (h₀ := X.base) I.ok.mod.kin hk hall (thn (hkw.run pos pins s σ H _ I h) fun ws s2 ⟨zs, H2, I2, rz, _, l2, q2⟩ => ⟨I2.kIn, ?_⟩) hpl
  rw [hks]
  exact wp_of_code (α := Unit) (F.call hr hg hx I2 (fun _ => hb s2 [] ws I2.kIn rfl (by rw [← rz.length]; exact l2)) (pick_vals (vs := [] ++ zs ++ dvs) (us := [] ++ ws ++ ds) (rz.append hd)) q2)
end

abbrev Con := List D → Nat → (D → Nat → Prop) → Prop
def lift (K : PySem.W.Frag) (Gf : Addr → Addr → Gx) (C : Con) : Sp := fun vs H Q _ => ∃ (a c : Addr) (ads : List Addr) (ds : List D) (n : Nat) (Qd : D → Nat → Prop),
  (∀ x ∈ (Gf a c).dk, x ∈ ads) ∧ (∀ x ∈ ads, H x ≠ none) ∧ (Gf a c).DI n H ∧ RepAll K (Gf a c) (mask ads H) vs ds ∧ C ds n Qd ∧
  ∀ (v : V) (d : D) (n' : Nat) (H' : Hp), (∀ b o, H b = some o → b ∉ (Gf a c).dk → H' b = some o) → (Gf a c).DI n' H' → Rep K (Gf a c) (mask ads H') v d → Qd d n' → Q v H'
@[simp] def start3 (N : List Str) (ds : List D) : List (Option SV) := ds.map (fun d => some (.sh d)) ++ List.replicate (N.length - ds.length) none
section
variable {P : Program} {w : World} {K : PySem.W.Frag} {mg : Str → Option Value} {base : Heap} {k : Nat} {f : Addr} {fd : FuncData} {ps N : List Str} {x qual : Str} {params : Arguments} {body : List Stmt} {scope : Scope} {Gf : Addr → Addr → Gx} {C : Con} {ws : WS}
theorem start_sr {G : Gx} {H : Hp} {ads : List Addr} {n : Nat} {am : Nat → Addr} {vs : List V} {ds : List D} (hk : ∀ x ∈ G.dk, x ∈ ads) (ha : ∀ x ∈ ads, H x ≠ none) (di : G.DI n H) (r : RepAll K G (mask ads H) vs ds) :
    SR K G ⟨H, ads, []⟩ am ads (L2.start N vs) ⟨start3 N ds, n⟩ H where
  len := by unfold L2.start start3; simp [r.length]
  sh := fun i d h => by
    unfold start3 at h
    by_cases q : i < ds.length
    · rw [List.getElem?_append_left (by simpa using q), List.getElem?_map] at h
      cases e : ds[i]? with
      | none => rw [e] at h; cases h
      | some d' =>
        rw [e] at h
        have : d' = d := by simpa using h
        subst this
        obtain ⟨v, h1, h2⟩ := r.get e
        refine ⟨v, ?_, h2⟩
        unfold L2.start
        rw [List.getElem?_append_left (by simpa [r.length] using q), List.getElem?_map, h1]
        rfl
    · rw [List.getElem?_append_right (by simpa using q), List.getElem?_replicate] at h
      split at h <;> cases h
  ow := fun i d h => by
    unfold start3 at h
    by_cases q : i < ds.length
    · rw [List.getElem?_append_left (by simpa using q), List.getElem?_map] at h
      cases e : ds[i]? with
      | none => rw [e] at h; cases h
      | some d' => rw [e] at h; cases h
    · rw [List.getElem?_append_right (by simpa using q), List.getElem?_replicate] at h
      split at h <;> cases h
  inj := fun a b ⟨d, h⟩ _ _ => by
    exfalso
    unfold start3 at h
    by_cases q : a < ds.length
    · rw [List.getElem?_append_left (by simpa using q), List.getElem?_map] at h
      cases e : ds[a]? with
      | none => rw [e] at h; cases h
      | some d' => rw [e] at h; cases h
    · rw [List.getElem?_append_right (by simpa using q), List.getElem?_replicate] at h
      split at h <;> cases h
  ads := fun a z => z
  dks := hk
  al := ha
  base := fun b o h _ => h
  di := di
  gh := fun p hp => by cases hp
/-- THE RULE: a def by its body's reading over data -/
theorem FnG.data (F : FunB K x qual params body scope f fd) (S : FnScope N ps scope) (len : ∀ ds n Q, C ds n Q → ds.length = ps.length)
    (hb : ∀ (cdv : Value) (A : Around) (outer : List Env) (s : Shared) (H : Hp) (E : XK) (a c : Addr), Room k (A.deeper (envOfC qual scope s.heap.objs.size f cdv)) → A.guards = some [] →
      ∃ t, DSs (cxOf CX0 P w K mg base N qual scope f cdv A outer s H E).nox (Gf a c) body t ws)
    (hw : ∀ ds n Q, C ds n Q → ws ⟨fun δ => Q .non δ.n, Q, fun _ => False, fun _ => False⟩ ⟨start3 N ds, n⟩) : FnG P w K mg base CX0 (k + 1) f fd ps (lift K Gf C) := by
  refine FnG.of F S (fun vs H Q E ⟨a, c, ads, ds, n, Qd, _, _, _, r, hc, _⟩ => by rw [r.length]; exact len ds n Qd hc) fun cdv A outer s H vs Q E hr hg ⟨a, c, ads, ds, n, Qd, hk, ha, di, r, hc, q⟩ => ?_
  obtain ⟨t, ht⟩ := hb cdv A outer s H E a c hr hg
  refine ⟨t, ht.ps.nox, ht.sim ⟨H, ads, []⟩ (fun _ => 0) ads _ _ H (start_sr hk ha di r) _ (hw ds n Qd hc) _ ⟨fun am M σ δ H' S' z => ?_, fun _ _ _ _ _ _ z => z, fun _ _ _ _ _ _ z => z, fun v d n' H' rv hbase di' z => q v d n' H' hbase di' rv z⟩⟩
  exact q .non .non _ H' S'.base S'.di rfl z
end
@[simp] def wCall (C : Con) (dd : List D) (w : WA) : WE := fun δ Q => w δ fun rs δ1 => keeps rs ∧ C (rs.map RD.d ++ dd) δ1.n fun d n' => Q (.sh d) ⟨δ1.sl, n'⟩
@[simp] def wCallP (C : Con) (n m : Nat) (perm : List Nat) (dd : List D) (w wk : WA) : WE := fun δ Q => w δ fun rs δ1 => wk δ1 fun qs δ2 => keeps rs ∧ keeps qs ∧ rs.length = n ∧ qs.length = m ∧
  C (pick perm (rs.map RD.d ++ qs.map RD.d ++ dd)) δ2.n fun d n' => Q (.sh d) ⟨δ2.sl, n'⟩
section
variable {X : Cx} {G : Gx} {K : PySem.W.Frag} {E : Ent} {Gf : Addr → Addr → Gx} {a c : Addr} {C : Con} {dd : List D} {dvs : List V} {ta tk : TA} {wa wk : WA}
/-- the default values, that stand whatever the heap -/
def Dfl (K : PySem.W.Frag) (G : Gx) (dvs : List V) (dd : List D) : Prop := ∀ H, RepAll K G H dvs dd
theorem dfl_nil {G : Gx} : Dfl K G [] [] := fun _ => rfl
theorem lift_use {Ex : XK} {am : Nat → Addr} {M : List Addr} {σ : L2.St} {δ : St3} {H : Hp} {vs : List V} {ds : List D} {Qd : RD → St3 → Prop} {Q : VK} (S : SR K (Gf a c) E am M σ δ H) (r : RepAll K (Gf a c) (mask M H) vs ds) (hc : C ds δ.n fun d n' => Qd (.sh d) ⟨δ.sl, n'⟩)
    (k : ∀ (v : V) (r : RD) (δ' : St3) (H' : Hp), SR K (Gf a c) E am M σ δ' H' → Ext (Gf a c) am δ H H' → (∀ i, isOwn δ' i → isOwn δ i) → RV K (Gf a c) E am M σ δ' H' v r → Qd r δ' → Q v H') : lift K Gf C vs H Q Ex := by
  refine ⟨a, c, M, ds, δ.n, _, fun x hx => S.ads x (S.dks x hx), S.al, S.di, r, hc, fun v d n' H' hb di rv q => ?_⟩
  exact k v (.sh d) ⟨δ.sl, n'⟩ H' (S.after hb di) (fun b o h hk _ => hb b o h hk) (fun i z => z) rv q
theorem sim_call {Ex : XK} (h : SimA K (Gf a c) E ta wa) (hd : Dfl K (Gf a c) dvs dd) : SimE K (Gf a c) E (tCall (lift K Gf C) dvs Ex ta) (wCall C dd wa) := fun am M σ δ H S Qd q Q k =>
  h am M σ δ H S _ q _ fun vs rs δ1 H1 S1 e1 o1 r1 ⟨hk, hc⟩ => lift_use S1 ((r1.rep hk).append (hd _)) hc fun v r δ' H' S' e' o' rv hq => k v r δ' H' S' (e1.trans o1 e') (fun i z => o1 i (o' i z)) rv hq
theorem pick_rep {perm : List Nat} {H : Hp} {G : Gx} {vs : List V} {ds : List D} (r : RepAll K G H vs ds) : RepAll K G H (pick perm vs) (pick perm ds) := by
  induction perm with
  | nil => exact rfl
  | cons i perm ih =>
    unfold pick at ih ⊢
    cases q : ds[i]? with
    | none =>
      have q' : vs[i]? = none := by
        rw [List.getElem?_eq_none_iff] at q ⊢
        rw [r.length]; exact q
      rw [List.filterMap_cons_none q, List.filterMap_cons_none q']
      exact ih
    | some d =>
      obtain ⟨v, hv, rv⟩ := r.get q
      rw [List.filterMap_cons_some q, List.filterMap_cons_some hv]
      exact ⟨v, _, rfl, rv, ih⟩
theorem RKs.later {G : Gx} {am : Nat → Addr} {M : List Addr} {σ : L2.St} {δ1 δ2 : St3} {H1 H2 : Hp} (S : SR K G E am M σ δ1 H1) (e : Ext G am δ1 H1 H2) : ∀ {vs : List V} {rs : List RD}, RKs K G am M δ1 H1 vs rs → keeps rs → RKs K G am M δ2 H2 vs rs
  | _, _, .nil, _ => .nil
  | _, _, .cons h t, ⟨k, ks⟩ => .cons (h.later S e fun z => (k z).elim) (t.later S e ks)
theorem sim_callP {Ex : XK} {n m : Nat} {perm : List Nat} (h : SimA K (Gf a c) E ta wa) (h' : SimA K (Gf a c) E tk wk) (hd : Dfl K (Gf a c) dvs dd) : SimE K (Gf a c) E (tCallP (lift K Gf C) n m perm dvs Ex ta tk) (wCallP C n m perm dd wa wk) := fun am M σ δ H S Qd q Q k =>
  h am M σ δ H S _ q _ fun vs rs δ1 H1 S1 e1 o1 r1 q => h' am M σ δ1 H1 S1 _ q _ fun zs qs δ2 H2 S2 e2 o2 r2 ⟨k1, k2, l1, l2, hc⟩ =>
    ⟨by rw [r1.length]; exact l1, by rw [r2.length]; exact l2, lift_use S2 (pick_rep ((((r1.later (δ2 := δ2) S1 e2 k1).rep k1).append (r2.rep k2)).append (hd _))) hc fun v r δ' H' S' e' o' rv hq =>
      k v r δ' H' S' ((e1.trans o1 e2).trans (fun i z => o1 i (o2 i z)) e') (fun i z => o1 i (o2 i (o' i z))) rv hq⟩
variable {k : Nat} {f : Addr} {fd : FuncData} {ps ks : List Str} {ds : List Value} {x : Str} {p pos : Pos} {e : Expr} {es : List Expr} {kws : List Keyword}
theorem de_call (F : FnG X.prog X.w X.K X.mg X.base CX0 k f fd ps (lift X.K Gf C)) (hr : Room k X.A) (hg : X.A.guards = some []) (hm : X.mg x = some (.ref f)) (hk : PySem.W.keepIn X.K (.ref f) = true) (hb : Binds X.K fd ps ds) (hv : Vals dvs ds) (hd : Dfl X.K (Gf a c) dvs dd)
    (ha : DA X (Gf a c) (e :: es) ta wa) (gl : Gl X x := by rfl) (hdb : (x == ("__debug__" : Str)) = false := by decide) (he : starEach (e :: es) X.env = (false, eval e X.env) :: starEach es X.env := by rfl) (hpl : (backTo pos (starEach es X.env)).any (·.1) = false := by rfl) :
    DE X (Gf a c) (.Call (.Name x p) (e :: es) [] pos) (tCall (lift X.K Gf C) dvs E0 ta) (wCall C dd wa) := ⟨pg_call F hr hg gl hm hk hb hv pass0 ha.pa hdb he hpl, fun E => sim_call (ha.sim E) hd⟩
theorem de_call0 (F : FnG X.prog X.w X.K X.mg X.base CX0 k f fd ps (lift X.K Gf C)) (hr : Room k X.A) (hg : X.A.guards = some []) (hm : X.mg x = some (.ref f)) (hk : PySem.W.keepIn X.K (.ref f) = true) (hb : Binds X.K fd ps ds) (hv : Vals dvs ds) (hd : Dfl X.K (Gf a c) dvs dd)
    (gl : Gl X x := by rfl) (hdb : (x == ("__debug__" : Str)) = false := by decide) : DE X (Gf a c) (.Call (.Name x p) [] [] pos) (tCall (lift X.K Gf C) dvs E0 tNil) (wCall C dd wNil) := ⟨pg_call0 F hr hg gl hm hk hb hv pass0 hdb, fun E => sim_call sim_nil hd⟩
structure DK (X : Cx) (G : Gx) (kws : List Keyword) (tk : TA) (w : WA) : Prop where
  pk : PK X kws tk
  sim : ∀ E, SimA X.K G E tk w
theorem dk_nil {G : Gx} : DK X G [] tNil wNil := ⟨pk_nil, fun _ => sim_nil⟩
theorem dk_cons {G : Gx} {nm : Option Str} {kpos : Pos} {te : TE} {we : WE} (h : DE X G e te we) (hr : DK X G kws tk wk) : DK X G (⟨nm, e, kpos⟩ :: kws) (tCons te tk) (wCons we wk) := ⟨pk_cons h.pe hr.pk, fun E => sim_cons (h.sim E) (hr.sim E)⟩
theorem de_callK {n m : Nat} {perm : List Nat} (F : FnG X.prog X.w X.K X.mg X.base CX0 k f fd ps (lift X.K Gf C)) (hr : Room k X.A) (hg : X.A.guards = some []) (hm : X.mg x = some (.ref f)) (hk : PySem.W.keepIn X.K (.ref f) = true) (hb : KB X.K fd ps n ks perm ds) (hv : Vals dvs ds) (hd : Dfl X.K (Gf a c) dvs dd)
    (ha : DA X (Gf a c) (e :: es) ta wa) (hkw : DK X (Gf a c) kws tk wk) (gl : Gl X x := by rfl) (hall : (backToKw pos (keywordEach kws X.env)).all (·.1.isSome) = true := by rfl) (hks : (backToKw pos (keywordEach kws X.env)).filterMap (·.1) = ks := by rfl)
    (hdb : (x == ("__debug__" : Str)) = false := by decide) (he : starEach (e :: es) X.env = (false, eval e X.env) :: starEach es X.env := by rfl)
    (hpl : ((backTo pos (starEach (e :: es) X.env)).any (·.1) || (backToKw pos (keywordEach kws X.env)).any (·.1.isNone)) = false := by rfl) (hlen : ks.length = m := by rfl) :
    DE X (Gf a c) (.Call (.Name x p) (e :: es) kws pos) (tCallP (lift X.K Gf C) n m perm dvs E0 ta tk) (wCallP C n m perm dd wa wk) := by subst hlen; exact ⟨pg_callK F hr hg gl hm hk hb hv pass0 ha.pa hkw.pk hall hks hdb he hpl, fun E => sim_callP (ha.sim E) (hkw.sim E) hd⟩
theorem de_callK0 {m : Nat} {perm : List Nat} (F : FnG X.prog X.w X.K X.mg X.base CX0 k f fd ps (lift X.K Gf C)) (hr : Room k X.A) (hg : X.A.guards = some []) (hm : X.mg x = some (.ref f)) (hk : PySem.W.keepIn X.K (.ref f) = true) (hb : KB X.K fd ps 0 ks perm ds) (hv : Vals dvs ds) (hd : Dfl X.K (Gf a c) dvs dd)
    (hkw : DK X (Gf a c) kws tk wk) (gl : Gl X x := by rfl) (hall : (backToKw pos (keywordEach kws X.env)).all (·.1.isSome) = true := by rfl) (hks : (backToKw pos (keywordEach kws X.env)).filterMap (·.1) = ks := by rfl)
    (hdb : (x == ("__debug__" : Str)) = false := by decide) (hpl : ((backTo pos (starEach [] X.env)).any (·.1) || (backToKw pos (keywordEach kws X.env)).any (·.1.isNone)) = false := by rfl) (hlen : ks.length = m := by rfl) :
    DE X (Gf a c) (.Call (.Name x p) [] kws pos) (tCallP (lift X.K Gf C) 0 m perm dvs E0 tNil tk) (wCallP C 0 m perm dd wNil wk) := by subst hlen; exact ⟨pg_callK0 F hr hg gl hm hk hb hv pass0 hkw.pk hall hks hdb hpl, fun E => sim_callP sim_nil (hkw.sim E) hd⟩
end

def fLen : FC
  | [.lst xs], Q => Q (.sh (.int xs.length))
  | [.tup xs], Q => Q (.sh (.int xs.length))
  | [.str z], Q => z.length ≤ 16777216 ∧ Q (.sh (.int z.length))
  | _, _ => False
@[simp] theorem fLen_0  (xs : List D) (Q : RD → Prop) : fLen [.lst xs] Q = (Q (.sh (.int xs.length))) := rfl
@[simp] theorem fLen_1  (xs : List D) (Q : RD → Prop) : fLen [.tup xs] Q = (Q (.sh (.int xs.length))) := rfl
@[simp] theorem fLen_2  (z : Str) (Q : RD → Prop) : fLen [.str z] Q = (z.length ≤ 16777216 ∧ Q (.sh (.int z.length))) := rfl
def fInt : FC
  | [.int i], Q => Q (.sh (.int i))
  | [.bl b], Q => Q (.sh (.int (if b then 1 else 0)))
  | _, _ => False
@[simp] theorem fInt_0  (i : Int) (Q : RD → Prop) : fInt [.int i] Q = (Q (.sh (.int i))) := rfl
@[simp] theorem fInt_1  (b : Bool) (Q : RD → Prop) : fInt [.bl b] Q = (Q (.sh (.int (if b then 1 else 0)))) := rfl
def fAbs : FC
  | [.int i], Q => Q (.sh (.int (if i < 0 then -i else i)))
  | _, _ => False
@[simp] theorem fAbs_0  (i : Int) (Q : RD → Prop) : fAbs [.int i] Q = (Q (.sh (.int (if i < 0 then -i else i)))) := rfl
def fMax2 : FC
  | [.int i, .int j], Q => Q (.sh (.int (if j > i then j else i)))
  | _, _ => False
@[simp] theorem fMax2_0  (i : Int) (j : Int) (Q : RD → Prop) : fMax2 [.int i, .int j] Q = (Q (.sh (.int (if j > i then j else i)))) := rfl
def fMin2 : FC
  | [.int i, .int j], Q => Q (.sh (.int (if j < i then j else i)))
  | _, _ => False
@[simp] theorem fMin2_0  (i : Int) (j : Int) (Q : RD → Prop) : fMin2 [.int i, .int j] Q = (Q (.sh (.int (if j < i then j else i)))) := rfl
def fList : FC
  | [.lst xs], Q => Q (.fr (.lst xs))
  | [.tup xs], Q => Q (.fr (.lst xs))
  | _, _ => False
@[simp] theorem fList_0  (xs : List D) (Q : RD → Prop) : fList [.lst xs] Q = (Q (.fr (.lst xs))) := rfl
@[simp] theorem fList_1  (xs : List D) (Q : RD → Prop) : fList [.tup xs] Q = (Q (.fr (.lst xs))) := rfl
def fTuple : FC
  | [.lst xs], Q => Q (.sh (.tup xs))
  | [.tup xs], Q => Q (.sh (.tup xs))
  | _, _ => False
@[simp] theorem fTuple_0  (xs : List D) (Q : RD → Prop) : fTuple [.lst xs] Q = (Q (.sh (.tup xs))) := rfl
@[simp] theorem fTuple_1  (xs : List D) (Q : RD → Prop) : fTuple [.tup xs] Q = (Q (.sh (.tup xs))) := rfl
def fRepr : FC
  | [d], Q => ∃ p, d.py = some p ∧ p.showable = true ∧ p.hasDict = false ∧ p.depth ≤ 30 ∧ p.shown.length ≤ 16777216 ∧ Q (.sh (.str p.shown))
  | _, _ => False
section
variable {X : Cx} {G : Gx} {K : PySem.W.Frag}
def rLenA (K : PySem.W.Frag) : List V → Hp → VK → Prop := fun xs H Q => (∃ p ys, xs = [.ref p] ∧ (SqL K H p ys ∨ SqT K H p ys) ∧ Q (.int ys.length) H) ∨ ∃ z, xs = [.str z] ∧ z.length ≤ sizeLine ∧ Q (.int z.length) H
theorem call_lenA : CallR X (.builtin "len") (rLenA X.K) := call_len_seq.or call_len_str
theorem calls_len : CallS K G (rLenA K) fLen := fun M H vs ds al b Qd h Q k => by
  match ds, h with
  | [.lst xs], h =>
    obtain ⟨v, rfl, b1⟩ := b.one
    obtain ⟨p, ys, rfl, hy, r⟩ := b1.lst
    exact .inl ⟨p, ys, rfl, .inl (SqL.of hy), by rw [r.length]; exact k _ _ H (Same.refl _) rn_int h⟩
  | [.tup xs], h =>
    obtain ⟨v, rfl, b1⟩ := b.one
    obtain ⟨p, ys, rfl, hy, r⟩ := b1.tup
    exact .inl ⟨p, ys, rfl, .inr hy, by rw [r.length]; exact k _ _ H (Same.refl _) rn_int h⟩
  | [.str z], ⟨h1, h⟩ =>
    obtain ⟨v, rfl, b1⟩ := b.one
    exact .inr ⟨z, by rw [b1.str], by rw [line16]; exact h1, k _ _ H (Same.refl _) rn_int h⟩
theorem calls_int : CallS K G (fun xs H Q => (∃ i, xs = [.int i] ∧ Q (.int i) H) ∨ ∃ k, xs = [.bl k] ∧ Q (.int (if k then 1 else 0)) H) fInt := fun M H vs ds al b Qd h Q k => by
  match ds, h with
  | [.int i], h =>
    obtain ⟨v, rfl, b1⟩ := b.one
    exact .inl ⟨i, by rw [b1.int], k _ _ H (Same.refl _) rn_int h⟩
  | [.bl i], h =>
    obtain ⟨v, rfl, b1⟩ := b.one
    exact .inr ⟨i, by rw [b1.bl], k _ _ H (Same.refl _) rn_int h⟩
theorem calls_abs : CallS K G (fun xs H Q => ∃ i, xs = [.int i] ∧ Q (.int (if i < 0 then -i else i)) H) fAbs := fun M H vs ds al b Qd h Q k => by
  match ds, h with
  | [.int i], h =>
    obtain ⟨v, rfl, b1⟩ := b.one
    exact ⟨i, by rw [b1.int], k _ _ H (Same.refl _) rn_int h⟩
theorem calls_max2 : CallS K G (fun xs H Q => ∃ i j, xs = [.int i, .int j] ∧ Q (.int (if j > i then j else i)) H) fMax2 := fun M H vs ds al b Qd h Q k => by
  match ds, h with
  | [.int i, .int j], h =>
    obtain ⟨v, u, rfl, b1, b2⟩ := b.two
    exact ⟨i, j, by rw [b1.int, b2.int], k _ _ H (Same.refl _) rn_int h⟩
theorem calls_min2 : CallS K G (fun xs H Q => ∃ i j, xs = [.int i, .int j] ∧ Q (.int (if j < i then j else i)) H) fMin2 := fun M H vs ds al b Qd h Q k => by
  match ds, h with
  | [.int i, .int j], h =>
    obtain ⟨v, u, rfl, b1, b2⟩ := b.two
    exact ⟨i, j, by rw [b1.int, b2.int], k _ _ H (Same.refl _) rn_int h⟩
theorem calls_list : CallS K G (fun xs H Q => ∃ p ys, xs = [.ref p] ∧ (SqL K H p ys ∨ SqT K H p ys) ∧ ∀ l, H l = none → Q (.ref l) (upd H l (.lst ys))) fList := fun M H vs ds al b Qd h Q k => by
  match ds, h with
  | [.lst xs], h =>
    obtain ⟨v, rfl, b1⟩ := b.one
    obtain ⟨p, ys, rfl, hy, r⟩ := b1.lst
    exact ⟨p, ys, rfl, .inl (SqL.of hy), fun l hl => k _ _ _ (same_new hl) (rn_lst hl r) h⟩
  | [.tup xs], h =>
    obtain ⟨v, rfl, b1⟩ := b.one
    obtain ⟨p, ys, rfl, hy, r⟩ := b1.tup
    exact ⟨p, ys, rfl, .inr hy, fun l hl => k _ _ _ (same_new hl) (rn_lst hl r) h⟩
theorem calls_tuple : CallS K G (fun xs H Q => ∃ p ys, xs = [.ref p] ∧ ((SqL K H p ys ∧ ∀ l, H l = none → Q (.ref l) (upd H l (.tup ys))) ∨ (SqT K H p ys ∧ Q (.ref p) H))) fTuple := fun M H vs ds al b Qd h Q k => by
  match ds, h with
  | [.lst xs], h =>
    obtain ⟨v, rfl, b1⟩ := b.one
    obtain ⟨p, ys, rfl, hy, r⟩ := b1.lst
    exact ⟨p, ys, rfl, .inl ⟨SqL.of hy, fun l hl => k _ _ _ (same_new hl) (rn_tup al hl r) h⟩⟩
  | [.tup xs], h =>
    obtain ⟨v, rfl, b1⟩ := b.one
    have bb := b1
    obtain ⟨p, ys, rfl, hy, r⟩ := b1.tup
    exact ⟨p, ys, rfl, .inr ⟨hy, k _ _ _ (Same.refl _) (rn_sh bb.shT) h⟩⟩
/-- repr of data -/
def rRepr (K : PySem.W.Frag) : List V → Hp → VK → Prop := fun xs H Q => ∃ v p, xs = [v] ∧ Dp K H v p ∧ p.showable = true ∧ p.hasDict = false ∧ p.depth ≤ 30 ∧ p.shown.length ≤ sizeLine ∧ Q (.str p.shown) H
theorem call_reprA (hg : X.A.guards = some []) (hu : X.A.units + 64 < cLine) : CallR X (.builtin "repr") (rRepr X.K) := by
  intro pins s σ H xs us Q I r h
  obtain ⟨v, p, rfl, hd, h1, h2, h3, h4, q⟩ := h
  obtain ⟨u, rfl, ru⟩ := vals1 r
  obtain ⟨as, rd⟩ := Dp.reads I p v u hd ru
  cases p with
  | none => cases rd; exact PySem.P.repr_of_none ⟨.str _, H, I.tok _, ⟨_, rfl⟩, q⟩
  | bool b =>
    cases rd
    refine PySem.P.repr_of_bool ⟨.str _, H, I.tok _, ⟨_, rfl⟩, ?_⟩
    cases b <;> exact q
  | int i => cases rd; exact PySem.P.repr_of_int (of_decide_eq_true h1) ⟨.str _, H, I.tok _, ⟨_, rfl⟩, q⟩
  | str x => cases rd; exact PySem.P.repr_of_str ⟨.str _, H, I.tok _, ⟨_, rfl⟩, q⟩ h4
  | dict _ => cases h2
  | list ps =>
    cases rd with
    | list e1 e2 e3 e4 => exact repr_of_reads' (.list e1 e2 e3 e4) h1 (PyData.noDict_hsm h2) hg (by omega) (fun _ _ e => e) (fun h' u tk hk => ⟨.str _, H, I.kept hk, ⟨_, rfl⟩, q⟩) h4
  | tuple ps =>
    cases rd with
    | tuple e1 e2 e3 e4 => exact repr_of_reads' (.tuple e1 e2 e3 e4) h1 (PyData.noDict_hsm h2) hg (by omega) (fun _ _ e => e) (fun h' u tk hk => ⟨.str _, H, I.kept hk, ⟨_, rfl⟩, q⟩) h4
theorem calls_repr : CallS K G (rRepr K) fRepr := fun M H vs ds al b Qd h Q k => by
  match ds, h with
  | [d], ⟨p, e, h1, h2, h3, h4, h⟩ =>
    obtain ⟨v, rfl, b1⟩ := b.one
    exact ⟨v, p, rfl, b1.dp e, h1, h2, h3, by rw [line16]; exact h4, k _ _ H (Same.refl _) rn_str h⟩
end
end L3
namespace L3
open PySem PySem.Spec PyProof.Rows L2
/-- the heap in which at most the script is tracked -/
def Scr (a : Addr) (o : Obj) (xs : List V) (H : Hp) : Prop := ∀ b u, H b = some u → b = a ∧ u = .frz o (.lst xs)
theorem law_callG {P : Program} {w : World} {K : PySem.W.Frag} {mg mb : Str → Option Value} {k : Nat} {fa a : Addr} {fd : FuncData} {x : Str} {sp : Sp} {s₁ : Shared} {vs : List Value} {ns : List Int}
    (kx : K.In s₁.heap) (g1 : s₁.heap.Ns mainGlobals mg) (g2 : s₁.heap.Ns builtinsNs mb) (g3 : ∀ x : Str, x ≠ "__name__" → mb x = bootBuiltins x) (nl : s₁.heap.NoLimit) (ng : s₁.gens = #[])
    (ha : s₁.heap.get? a = some { cls := .type "list", data := .seq vs.toArray }) (hi : IntsAre vs ns) (hl : ns.length ≤ sizeLine) (hr : Room k callerA)
    (F : ∀ base : Heap, K.In base → base.Ns mainGlobals mg → FnG P w K mg base CX0 k fa fd [x] sp) (bt : ∀ (s : Shared) (u : Value), BindsTo s fd ⟨[u], []⟩ [(x, u)])
    (hsp : ∀ H : Hp, SqL K H a (ns.map V.int) → sp [.ref a] H (fun v _ => v = .bl true) fun _ _ _ => False) :
    codeAny (model P w) callerA (.call (.ref fa) ⟨[.ref a], []⟩) (fun r s' => r = .ok (.ret (.bool true)) ∧ OldK s₁.heap s'.heap ∧ s'.os = s₁.os ∧ AllBare s'.gens) s₁ := by
  have rv := vals_ints hi
  obtain ⟨H, hS, sc, hK⟩ : ∃ H : Hp, SqL K H a (ns.map V.int) ∧ Scr a { cls := .type "list", data := .seq vs.toArray } (ns.map V.int) H ∧ (H a ≠ none → K.lookup a = none) := by
    cases q : K.lookup a with
    | none =>
      refine ⟨fun b => if b = a then some (.frz { cls := .type "list", data := .seq vs.toArray } (.lst (ns.map V.int))) else none, .inl (.inr ⟨_, if_pos rfl⟩), fun b u e => ?_, fun _ => rfl⟩
      by_cases z : b = a
      · exact ⟨z, (Option.some.inj ((if_pos z).symm.trans e)).symm⟩
      · cases (if_neg z).symm.trans e
    | some o =>
      have e := kx a o q
      rw [ha] at e
      cases e
      refine ⟨fun _ => none, .inr ⟨_, vs.toArray, _, q, rfl, rfl, rfl, by rw [List.size_toArray, hi.length]; exact hl, rv⟩, ?_, fun z => absurd rfl z⟩
      intro b u e
      cases e
  have hok : HOk P w H s₁.heap := fun b u e => by
    obtain ⟨rfl, rfl⟩ := sc b u e
    exact ⟨ha, by rw [List.length_map]; exact hl, vs, _, rv, ha⟩
  -- what is written at the top is not the script
  have dictNo : ∀ {b : Addr} {o : Obj} {es : Array DictEntry} {ep : Nat}, s₁.heap.get? b = some o → o.data = .dict es ep → H b = none := fun {b o es ep} e d => by
    cases q : H b with
    | none => rfl
    | some u =>
      obtain ⟨rfl, _⟩ := sc b u q
      rw [ha] at e
      cases e
      exact nomatch d
  have toNs : ∀ {b : Addr} {m : Str → Option Value}, s₁.heap.Ns b m → (hidT s₁.heap H).Ns b m := by
    rintro b m ⟨o, es, ep, e, d, r⟩
    exact ⟨o, es, ep, hidT_get e (dictNo e d), d, r⟩
  have kb : K.In (hidT s₁.heap H) := fun b o e => hidT_get (kx b o e) (by
    cases q : H b with
    | none => rfl
    | some u =>
      obtain ⟨rfl, _⟩ := sc b u q
      rw [hK (by rw [q]; simp)] at e
      cases e)
  obtain ⟨mc, n1, n2⟩ := nl
  have e0 : Env0 P w K mg (hidT s₁.heap H) callerA [] s₁ H :=
    { frames := rfl, mod := ⟨kb, toNs g1, ⟨mb, toNs g2, g3⟩, ⟨mc, toNs n1, n2⟩⟩, bs := fun b o e => of_hidT e, bsz := Nat.le_of_eq (hidT_size _ _), funs := trivial, frf := fun b hb => (by cases hb), hok := hok, bare := .of_eq ng }
  have run := (F _ kb (toNs g1)).go callerA [] s₁ H ⟨[.ref a], []⟩ [.ref a] [.ref a] _ _ ⟨hr, rfl⟩ e0 (bt s₁ (.ref a)) (.cons rfl .nil) (hsp H hS)
  refine codeAny_mono run fun r s' h => ?_
  match r, h with
  | .error _, h => exact False.elim h
  | .ok .next, h => exact False.elim h
  | .ok .brk, h => exact False.elim h
  | .ok .cont, h => exact False.elim h
  | .ok (.ret u), ⟨v, H', os, bare, un, hok', r', q⟩ =>
    have q : v = .bl true := q
    subst q
    have r' : u = Value.bool true := r'
    subst r'
    refine ⟨rfl, OldK.of_keep fun b o e => ?_, os, bare⟩
    cases z : H b with
    | none => exact un.keep b o e z (fun m => nomatch m) (fun m => nomatch m)
    | some y =>
      obtain ⟨rfl, rfl⟩ := sc b y z
      rw [ha] at e
      cases e
      exact (hok' _ _ (un.frzs _ _ _ z)).1
/-- the goal that k_head leaves -/
theorem walk_ofG {l : PySem.W.OpenLaw} {n k : Nat} {q : Program} {loose : List Str} {XP : (Str → Option Value) → Heap → Prop} {YP : World → Heap → Prop} {d : DefRec} {K : Params → PySem.W.Frag} {sp : PySem.W.Frag → Sp} {x : Str}
    (hn : l.most = some n) (hn2 : n ≤ sizeLine) (hdf : d.params.defaults = []) (hr : Room k callerA) (hY : ∀ (w : World) (h : Heap), YP w h → (K w.params).In h)
    (F : ∀ (w : World) (mg : Str → Option Value) (fa : Addr) (h : Heap), (K w.params).In h → h.Ns mainGlobals mg → mg d.name = some (.ref fa) →
      ∃ fd : FuncData, (∀ (s : Shared) (u : Value), BindsTo s fd ⟨[u], []⟩ [(x, u)]) ∧ ∀ base : Heap, (K w.params).In base → base.Ns mainGlobals mg → FnG l.prog w (K w.params) mg base CX0 k fa fd [x] (sp (K w.params)))
    (hsp : ∀ (K : PySem.W.Frag) (H : Hp) (a : Addr) (ns : List Int), ns.length ≤ n → SqL K H a (ns.map V.int) → sp K [.ref a] H (fun v _ => v = .bl true) fun _ _ _ => False) :
    PySem.W.WalkO q loose XP YP l.row.toRowW d [] (fun f vs => PySem.call f vs) :=
  Att.attach_call hn hdf fun w s₀ s₁ mg mb fa o pm cd doc a vs ns G Y ho hd hcd hmg hobj hints hlen hg => by
    obtain ⟨fd, b1, b2⟩ := F w mg fa _ (hY w _ Y) G.T.g hmg
    exact law_callG (hY w _ Y) G.T.g G.T.b G.T.builtins G.T.nolimit hg hobj hints (Nat.le_trans hlen hn2) hr b2 b1 fun H hS => hsp _ H a ns hlen hS
end L3
namespace L3
open PySem PySem.Spec PyProof.Rows L2
/-- the own list of a slot -/
@[simp] def ownL (δ : St3) (i : Nat) (ds : List D) : Prop := δ.sl[i]? = some (some (SV.ow (.lst ds)))
@[simp] def wAppend (i : Nat) (w : WE) : WS := fun De δ => (∃ ds0, ownL δ i ds0) ∧ w δ fun r δ1 => ¬ r.bor ∧ ∃ ds, ownL δ1 i ds ∧ ds.length < 16777216 ∧ De.nx ⟨δ1.sl.set i (some (.ow (.lst (ds ++ [r.d])))), δ1.n⟩
@[simp] def wExtend (i : Nat) (w : WE) : WS := fun De δ => (∃ ds0, ownL δ i ds0) ∧ w δ fun r δ1 => ∃ ds es, ownL δ1 i ds ∧ r.d = .lst es ∧ ds.length + es.length ≤ 16777216 ∧ De.nx ⟨δ1.sl.set i (some (.ow (.lst (ds ++ es)))), δ1.n⟩
@[simp] def wPop (i : Nat) : WE := fun δ Q => ∃ ds d, ownL δ i (ds ++ [d]) ∧ Q (.sh d) ⟨δ.sl.set i (some (.ow (.lst ds))), δ.n⟩
@[simp] def wPopAt (i : Nat) (w : WE) : WE := fun δ Q => (∃ ds0, ownL δ i ds0) ∧ w δ fun r δ1 => ∃ ds z k d, ownL δ1 i ds ∧ r.d = .int z ∧ -(2 ^ 63) ≤ z ∧ z < 2 ^ 63 ∧ seqIndex? z ds.length = some k ∧ ds[k]? = some d ∧ Q (.sh d) ⟨δ1.sl.set i (some (.ow (.lst (ds.eraseIdx k)))), δ1.n⟩
section
variable {X : Cx} {G : Gx} {K : PySem.W.Frag} {E : Ent} {te : TE} {we : WE} {e o : Expr} {pos apos : Pos} {i : Nat}
theorem own_mut {δ : St3} {i j : Nat} {d d' : D} (h : δ.sl[i]? = some (some (SV.ow d))) (hj : isOwn ⟨δ.sl.set i (some (.ow d')), δ.n⟩ j) : isOwn δ j := by
  obtain ⟨e, hj⟩ := hj
  rcases get_set hj with ⟨q, z⟩ | ⟨q, z⟩
  · subst q; exact ⟨d, h⟩
  · exact ⟨e, z⟩
theorem sim_append (h : ∀ E, SimE K G E te we) : SimS K G (tDrop (tBM K "list" rAppend (tVar i) (tCons te tNil))) (wAppend i we) := fun E am M σ δ H S D3 ⟨⟨ds0, h0⟩, q⟩ De R => by
  obtain ⟨a1, a2, a3, a4, xs0, a5, a6⟩ := S.ow i _ h0
  refine ⟨_, a1, .inl ⟨rfl, xs0, SqL.of a5⟩, ?_⟩
  refine h E am M σ δ H S _ q _ fun v r δ1 H1 S1 e1 o1 rv ⟨nb, ds, h1, sz, q⟩ => ?_
  obtain ⟨b1, b2, b3, b4, xs, b5, b6⟩ := S1.ow i _ h1
  refine ⟨am i, xs, v, rfl, rfl, b5, by rw [b6.length, line16]; exact sz, R.nx am M _ _ _ (S1.mut (d' := .lst (ds ++ [r.d])) h1 ⟨xs ++ [v], upd_same, ?_⟩) q⟩
  rw [mask_upd b2]
  exact b6.append (RepAll.one (rv.k.rep nb))
theorem ds_append (i : Nat) {x : Str} {p pos2 : Pos} (he : DE X G e te we) (hx : PE X (.Name x p) (tVar i)) (hbase : attributeBase (.Name x p) "append" X.env (eval (.Name x p) X.env) = eval (.Name x p) X.env := by rfl)
    (hfew : ((backTo pos (starEach [e] X.env)).all (fun x => !x.1) && (backToKw pos (keywordEach [] X.env)).all (fun x => x.1.isSome) && decide (([e] : List Expr).length + ([] : List Keyword).length + (if ([] : List Keyword).isEmpty then 0 else 1) < 30)) = true := by rfl)
    (hline : (apos.endLine == pos.line) = true := by rfl) (hst : starEach [e] X.env = (false, eval e X.env) :: starEach [] X.env := by rfl)
    (hs : swapsWith (.Call (.Attribute (.Name x p) "append" apos) [e] [] pos) none pos2.line X.env = pure false := by rfl) : DS X G (.Expr (.Call (.Attribute (.Name x p) "append" apos) [e] [] pos) pos2) (tDrop (tBM X.K "list" rAppend (tVar i) (tCons te tNil))) (wAppend i we) :=
  ⟨ps_expr (pe_bm PySem.F.plainAttrs_list PySem.F.slot_list_append PySem.F.type_list_append mt_append hx (pa_cons he.pe pa_nil hst) hbase hfew hline hst rfl) hs, sim_append he.sim⟩
theorem sim_extend (h : ∀ E, SimE K G E te we) : SimS K G (tDrop (tBM K "list" rExtend (tVar i) (tCons te tNil))) (wExtend i we) := fun E am M σ δ H S D3 ⟨⟨ds0, h0⟩, q⟩ De R => by
  obtain ⟨a1, a2, a3, a4, xs0, a5, a6⟩ := S.ow i _ h0
  refine ⟨_, a1, .inl ⟨rfl, xs0, SqL.of a5⟩, ?_⟩
  refine h E am M σ δ H S _ q _ fun v r δ1 H1 S1 e1 o1 rv ⟨ds, es, h1, er, sz, q⟩ => ?_
  obtain ⟨b1, b2, b3, b4, xs, b5, b6⟩ := S1.ow i _ h1
  have rb := rv.k.rb S1
  rw [er] at rb
  obtain ⟨p, ys, rfl, hy, ry⟩ := rb.lst
  refine ⟨am i, p, xs, ys, rfl, rfl, b5, hy, by rw [b6.length, ry.length, line16]; exact sz, R.nx am M _ _ _ (S1.mut (d' := .lst (ds ++ es)) h1 ⟨xs ++ ys, upd_same, ?_⟩) q⟩
  rw [mask_upd b2]
  exact b6.append ry
theorem ds_extend (i : Nat) {x : Str} {p pos2 : Pos} (he : DE X G e te we) (hx : PE X (.Name x p) (tVar i)) (hbase : attributeBase (.Name x p) "extend" X.env (eval (.Name x p) X.env) = eval (.Name x p) X.env := by rfl)
    (hfew : ((backTo pos (starEach [e] X.env)).all (fun x => !x.1) && (backToKw pos (keywordEach [] X.env)).all (fun x => x.1.isSome) && decide (([e] : List Expr).length + ([] : List Keyword).length + (if ([] : List Keyword).isEmpty then 0 else 1) < 30)) = true := by rfl)
    (hline : (apos.endLine == pos.line) = true := by rfl) (hst : starEach [e] X.env = (false, eval e X.env) :: starEach [] X.env := by rfl)
    (hs : swapsWith (.Call (.Attribute (.Name x p) "extend" apos) [e] [] pos) none pos2.line X.env = pure false := by rfl) : DS X G (.Expr (.Call (.Attribute (.Name x p) "extend" apos) [e] [] pos) pos2) (tDrop (tBM X.K "list" rExtend (tVar i) (tCons te tNil))) (wExtend i we) :=
  ⟨ps_expr (pe_bm PySem.F.plainAttrs_list PySem.F.slot_list_extend PySem.F.type_list_extend mt_extend hx (pa_cons he.pe pa_nil hst) hbase hfew hline hst rfl) hs, sim_extend he.sim⟩
theorem sim_pop : SimE K G E (tBM0 K "list" rPop (tVar i)) (wPop i) := fun am M σ δ H S Qd ⟨ds, d, h0, q⟩ Q k => by
  obtain ⟨a1, a2, a3, a4, xs, a5, a6⟩ := S.ow i _ h0
  have hl : xs.length = ds.length + 1 := by rw [a6.length]; simp
  obtain ⟨v, hv, rv⟩ := a6.get (i := ds.length) (d := d) (by simp)
  refine ⟨_, a1, .inl ⟨rfl, xs, SqL.of a5⟩, am i, xs, v, rfl, rfl, a5, by rw [hl]; exact hv, ?_⟩
  have S' := S.mut (o := .lst xs.dropLast) (d' := .lst ds) h0 ⟨xs.dropLast, upd_same, by
    rw [mask_upd a2]
    have := a6.dropLast
    rwa [List.dropLast_concat] at this⟩
  exact k v (.sh d) _ _ S' (fun b u hb _ ho => by rw [upd_ne fun z => ho i ⟨_, h0⟩ z.symm]; exact hb) (fun j z => own_mut h0 z) (show Rep K G _ v d by rw [mask_upd a2]; exact rv) q
theorem sim_popAt (h : ∀ E, SimE K G E te we) : SimE K G E (tBM K "list" rPopAt (tVar i) (tCons te tNil)) (wPopAt i we) := fun am M σ δ H S Qd ⟨⟨ds0, h0⟩, q⟩ Q k => by
  obtain ⟨a1, a2, a3, a4, xs0, a5, a6⟩ := S.ow i _ h0
  refine ⟨_, a1, .inl ⟨rfl, xs0, SqL.of a5⟩, ?_⟩
  refine h E am M σ δ H S _ q _ fun v r δ1 H1 S1 e1 o1 rv ⟨ds, z, j, d, h1, er, z1, z2, hj, hd, q⟩ => ?_
  obtain ⟨b1, b2, b3, b4, xs, b5, b6⟩ := S1.ow i _ h1
  have rb := rv.k.rb S1
  rw [er] at rb
  have ev := rb.int
  subst ev
  obtain ⟨y, hy, ry⟩ := b6.get hd
  refine ⟨am i, xs, z, j, y, rfl, rfl, b5, z1, z2, by rw [b6.length]; exact hj, hy, ?_⟩
  have S' := S1.mut (o := .lst (xs.eraseIdx j)) (d' := .lst (ds.eraseIdx j)) h1 ⟨xs.eraseIdx j, upd_same, by
    rw [mask_upd b2]
    exact b6.eraseIdx j⟩
  refine k y (.sh d) _ _ S' (e1.trans o1 fun b u hb _ ho => by rw [upd_ne fun z => ho i ⟨_, h1⟩ z.symm]; exact hb) (fun j z => o1 j (own_mut h1 z)) (show Rep K G _ y d by rw [mask_upd b2]; exact ry) q
theorem de_pop (i : Nat) {x : Str} {p : Pos} (hx : PE X (.Name x p) (tVar i)) (hbase : attributeBase (.Name x p) "pop" X.env (eval (.Name x p) X.env) = eval (.Name x p) X.env := by rfl) (hline : (apos.endLine == pos.line) = true := by rfl) :
    DE X G (.Call (.Attribute (.Name x p) "pop" apos) [] [] pos) (tBM0 X.K "list" rPop (tVar i)) (wPop i) := ⟨pe_bm0 PySem.F.plainAttrs_list PySem.F.slot_list_pop PySem.F.type_list_pop mt_pop hx hbase hline, fun _ => sim_pop⟩
theorem de_popAt (i : Nat) {x : Str} {p : Pos} (he : DE X G e te we) (hx : PE X (.Name x p) (tVar i)) (hbase : attributeBase (.Name x p) "pop" X.env (eval (.Name x p) X.env) = eval (.Name x p) X.env := by rfl)
    (hfew : ((backTo pos (starEach [e] X.env)).all (fun x => !x.1) && (backToKw pos (keywordEach [] X.env)).all (fun x => x.1.isSome) && decide (([e] : List Expr).length + ([] : List Keyword).length + (if ([] : List Keyword).isEmpty then 0 else 1) < 30)) = true := by rfl)
    (hline : (apos.endLine == pos.line) = true := by rfl) (hst : starEach [e] X.env = (false, eval e X.env) :: starEach [] X.env := by rfl) :
    DE X G (.Call (.Attribute (.Name x p) "pop" apos) [e] [] pos) (tBM X.K "list" rPopAt (tVar i) (tCons te tNil)) (wPopAt i we) := ⟨pe_bm PySem.F.plainAttrs_list PySem.F.slot_list_pop PySem.F.type_list_pop mt_popAt hx (pa_cons he.pe pa_nil hst) hbase hfew hline hst rfl, fun _ => sim_popAt he.sim⟩
end
end L3
namespace L3
open PySem PySem.Spec PyProof.Rows L2
/-- a list, a tuple, a text -/
def iSeq (K : PySem.W.Frag) (te : TE) : TI := fun σ H R => te σ H fun x H1 =>
  (∃ a, x = .ref a ∧ (∃ xs, SqL K H1 a xs) ∧ R (Itl K a) H1) ∨ (∃ a, x = .ref a ∧ (∃ xs, SqT K H1 a xs) ∧ R (Itt K a) H1)
theorem pi_seq {X : Cx} {tg e : Expr} {te : TE} (he : PE X e te) : PI X tg e (iSeq X.K te) := by
  refine ⟨fun pins s σ H R I h => thn (he.run pins s σ H _ I h) fun v s1 ⟨x, H1, I1, r1, q1⟩ => ?_⟩
  have fresh : ∀ (o : Obj) (b : Addr), b ∈ [s1.heap.objs.size] → FpOk X pins H1 b := fun o b hb => by
    rw [List.mem_singleton.mp hb]
    exact I1.fpOk (Nat.le_refl _) (I1.hok.fresh (Nat.le_refl _))
  rcases q1 with ⟨a, rfl, ⟨xs, hq⟩, q⟩ | ⟨a, rfl, ⟨xs, hq⟩, q⟩
  · cases r1
    obtain ⟨its, rv, p, hz⟩ := I1.list hq
    exact wpAny_pyIter_list p.isList ⟨_, [s1.heap.objs.size], _, Itl X.K a, H1, rfl, I1.kept (t' := s1.toks) fun b o e => Heap.get?_push_of_some _ e, turn_list a _, ⟨_, Heap.get?_push_size _ rfl, rfl, rfl⟩, fresh { cls := .none, data := .fields #[] }, q⟩
  · cases r1
    obtain ⟨its, rv, p, hz⟩ := I1.tuple hq
    exact wpAny_pyIter_tuple (show s1.heap.IsTuple a its.toArray from p) ⟨_, [s1.heap.objs.size], _, Itt X.K a, H1, rfl, I1.kept (t' := s1.toks) fun b o e => Heap.get?_push_of_some _ e, turn_tuple a _, ⟨_, Heap.get?_push_size _ rfl, rfl, rfl⟩, fresh { cls := .none, data := .fields #[] }, q⟩
def asS : D → Option (List D)
  | .lst ds => some ds
  | .tup ds => some ds
  | _ => none
@[simp] theorem asS_0  (ds : List D) : asS (.lst ds) = (some ds) := rfl
@[simp] theorem asS_1  (ds : List D) : asS (.tup ds) = (some ds) := rfl
section
variable {X : Cx} {G : Gx} {K : PySem.W.Frag} {E : Ent} {tg e : Expr} {te : TE} {we : WE}
theorem sim_iS (h : SimE K G E te we) : SimI K G E (iSeq K te) (wItems asS we) := fun am M σ δ H S Rd q R k =>
  h am M σ δ H S _ q _ fun v r δ1 H1 S1 e1 o1 rv ⟨nb, ds, hd, hR⟩ => by
    have rr := rv.k.rep nb
    cases q : r.d with
    | lst ds' =>
      rw [q] at hd rr
      cases hd
      obtain ⟨a, xs, rfl, hs, r2⟩ := id rr
      refine .inl ⟨a, rfl, ⟨xs, SqL.of (mask_le _ _ hs)⟩, k (Itl K a) ds [(.ref a, .lst ds)] δ1 H1 (S1.addgh _ fun p hp => ?_) e1 o1 iterL hR⟩
      have : p = (V.ref a, D.lst ds) := by simpa using hp
      subst this
      exact rr
    | tup ds' =>
      rw [q] at hd rr
      cases hd
      obtain ⟨a, xs, rfl, hs, r2⟩ := id rr
      refine .inr ⟨a, rfl, ⟨xs, same_t mask_le hs⟩, k (Itt K a) ds [(.ref a, .tup ds)] δ1 H1 (S1.addgh _ fun p hp => ?_) e1 o1 iterT hR⟩
      have : p = (V.ref a, D.tup ds) := by simpa using hp
      subst this
      exact rr
    | _ => rw [q] at hd; cases hd
theorem di_seq (h : DE X G e te we) : DI X G tg e (iSeq X.K te) (wItems asS we) := ⟨pi_seq h.pe, fun E => sim_iS (h.sim E)⟩
end
end L3
namespace L3
open PySem PySem.Spec PyProof.Rows L2
section
variable {X : Cx} {G : Gx} {a b e : Expr} {ta tb te : TE} {wa wb we : WE} {pos p : Pos}
theorem op_eqK (K : PySem.W.Frag) (hu : X.A.units + 64 < cLine) (hK : X.K = K := by rfl) : OpR X (compareOp .Eq) (rEqA K) := by subst hK; exact op_eqA hu
theorem op_neK (K : PySem.W.Frag) (hu : X.A.units + 64 < cLine) (hK : X.K = K := by rfl) : OpR X (compareOp .NotEq) (rNeA K) := by subst hK; exact op_neA hu
theorem op_inK (K : PySem.W.Frag) (hK : X.K = K := by rfl) : OpR X (compareOp .In) (rIn K false) := by subst hK; exact op_in_seq
theorem op_niK (K : PySem.W.Frag) (hK : X.K = K := by rfl) : OpR X (compareOp .NotIn) (rIn K true) := by subst hK; exact op_notIn_seq
theorem op_addK (K : PySem.W.Frag) (hK : X.K = K := by rfl) : OpR X (binaryOp .Add) (rAddA K) := by subst hK; exact op_addA
theorem call_lenK (K : PySem.W.Frag) (hK : X.K = K := by rfl) : CallR X (.builtin "len") (rLenA K) := by subst hK; exact call_lenA
theorem call_reprK (K : PySem.W.Frag) (hg : X.A.guards = some []) (hu : X.A.units + 64 < cLine) (hK : X.K = K := by rfl) : CallR X (.builtin "repr") (rRepr K) := by subst hK; exact call_reprA hg hu
def rListC (K : PySem.W.Frag) : List V → Hp → VK → Prop := fun xs H Q => ∃ p ys, xs = [.ref p] ∧ (SqL K H p ys ∨ SqT K H p ys) ∧ ∀ l, H l = none → Q (.ref l) (upd H l (.lst ys))
def rTupleC (K : PySem.W.Frag) : List V → Hp → VK → Prop := fun xs H Q => ∃ p ys, xs = [.ref p] ∧ ((SqL K H p ys ∧ ∀ l, H l = none → Q (.ref l) (upd H l (.tup ys))) ∨ (SqT K H p ys ∧ Q (.ref p) H))
theorem call_listK (K : PySem.W.Frag) (hK : X.K = K := by rfl) : CallR X (.type "list") (rListC K) := by subst hK; exact call_list_of
theorem call_tupleK (K : PySem.W.Frag) (hK : X.K = K := by rfl) : CallR X (.type "tuple") (rTupleC K) := by subst hK; exact call_tuple_of
theorem de_ixK (K : PySem.W.Frag) (ha : DE X G a ta wa) (hb : DE X G b tb wb) (hs : PlainIx b := by exact fun _ _ => rfl) (hK : X.K = K := by rfl) : DE X G (.Subscript a b pos) (tOp (rIx K) ta tb) (wOp fIx wa wb) := by subst hK; exact de_ix ha hb hs
theorem de_addK (K : PySem.W.Frag) (ha : DE X G a ta wa) (hb : DE X G b tb wb) (hK : X.K = K := by rfl) : DE X G (.BinOp a .Add b pos) (tOp (rAddA K) ta tb) (wOp fAdd wa wb) := by subst hK; exact de_add ha hb
theorem di_seqK (K : PySem.W.Frag) {tg : Expr} (h : DE X G e te we) (hK : X.K = K := by rfl) : DI X G tg e (iSeq K te) (wItems asS we) := by subst hK; exact di_seq h
theorem dg_tupK (K : PySem.W.Frag) {es : List Expr} {k : Nat} {t : TGs} {ws : WGs} {us : List Nat} {n : Nat} (hc : X.calm = true) (h : DGs X G es us t ws) (hn : (assignEach es X.env).length = n := by rfl) (hst : (assignEach es X.env).findIdx? (·.1) = none := by rfl) (hK : X.K = K := by rfl) :
    DG X G (.Tuple es k pos) us (gTup K n t) (gTup3 n ws) := by subst hK; exact dg_tup hc h hn hst
end
section
variable {X : Cx} {Gf : Addr → Addr → Gx} {a c : Addr} {C : Con} {dd : List D} {dvs : List V} {ta tk : TA} {wa wk : WA} {k : Nat} {f : Addr} {fd : FuncData} {ps ks : List Str} {ds : List Value} {x : Str} {p pos : Pos} {e : Expr} {es : List Expr} {kws : List Keyword}
theorem de_callX (K : PySem.W.Frag) (F : FnG X.prog X.w K X.mg X.base CX0 k f fd ps (lift K Gf C)) (hr : Room k X.A) (hg : X.A.guards = some []) (hm : X.mg x = some (.ref f)) (hk : PySem.W.keepIn K (.ref f) = true) (hb : Binds K fd ps ds) (hv : Vals dvs ds) (hd : Dfl K (Gf a c) dvs dd)
    (ha : DA X (Gf a c) (e :: es) ta wa) (gl : Gl X x := by rfl) (hdb : (x == ("__debug__" : Str)) = false := by decide) (he : starEach (e :: es) X.env = (false, eval e X.env) :: starEach es X.env := by rfl) (hpl : (backTo pos (starEach es X.env)).any (·.1) = false := by rfl) (hK : X.K = K := by rfl) :
    DE X (Gf a c) (.Call (.Name x p) (e :: es) [] pos) (tCall (lift K Gf C) dvs E0 ta) (wCall C dd wa) := by subst hK; exact de_call F hr hg hm hk hb hv hd ha gl hdb he hpl
theorem de_callX0 (K : PySem.W.Frag) (F : FnG X.prog X.w K X.mg X.base CX0 k f fd ps (lift K Gf C)) (hr : Room k X.A) (hg : X.A.guards = some []) (hm : X.mg x = some (.ref f)) (hk : PySem.W.keepIn K (.ref f) = true) (hb : Binds K fd ps ds) (hv : Vals dvs ds) (hd : Dfl K (Gf a c) dvs dd)
    (gl : Gl X x := by rfl) (hdb : (x == ("__debug__" : Str)) = false := by decide) (hK : X.K = K := by rfl) : DE X (Gf a c) (.Call (.Name x p) [] [] pos) (tCall (lift K Gf C) dvs E0 tNil) (wCall C dd wNil) := by subst hK; exact de_call0 F hr hg hm hk hb hv hd gl hdb
theorem de_callXK {n m : Nat} {perm : List Nat} (K : PySem.W.Frag) (F : FnG X.prog X.w K X.mg X.base CX0 k f fd ps (lift K Gf C)) (hr : Room k X.A) (hg : X.A.guards = some []) (hm : X.mg x = some (.ref f)) (hk : PySem.W.keepIn K (.ref f) = true) (hb : KB K fd ps n ks perm ds) (hv : Vals dvs ds) (hd : Dfl K (Gf a c) dvs dd)
    (ha : DA X (Gf a c) (e :: es) ta wa) (hkw : DK X (Gf a c) kws tk wk) (gl : Gl X x := by rfl) (hall : (backToKw pos (keywordEach kws X.env)).all (·.1.isSome) = true := by rfl) (hks : (backToKw pos (keywordEach kws X.env)).filterMap (·.1) = ks := by rfl)
    (hdb : (x == ("__debug__" : Str)) = false := by decide) (he : starEach (e :: es) X.env = (false, eval e X.env) :: starEach es X.env := by rfl)
    (hpl : ((backTo pos (starEach (e :: es) X.env)).any (·.1) || (backToKw pos (keywordEach kws X.env)).any (·.1.isNone)) = false := by rfl) (hlen : ks.length = m := by rfl) (hK : X.K = K := by rfl) :
    DE X (Gf a c) (.Call (.Name x p) (e :: es) kws pos) (tCallP (lift K Gf C) n m perm dvs E0 ta tk) (wCallP C n m perm dd wa wk) := by subst hK; exact de_callK F hr hg hm hk hb hv hd ha hkw gl hall hks hdb he hpl hlen
theorem de_callXK0 {m : Nat} {perm : List Nat} (K : PySem.W.Frag) (F : FnG X.prog X.w K X.mg X.base CX0 k f fd ps (lift K Gf C)) (hr : Room k X.A) (hg : X.A.guards = some []) (hm : X.mg x = some (.ref f)) (hk : PySem.W.keepIn K (.ref f) = true) (hb : KB K fd ps 0 ks perm ds) (hv : Vals dvs ds) (hd : Dfl K (Gf a c) dvs dd)
    (hkw : DK X (Gf a c) kws tk wk) (gl : Gl X x := by rfl) (hall : (backToKw pos (keywordEach kws X.env)).all (·.1.isSome) = true := by rfl) (hks : (backToKw pos (keywordEach kws X.env)).filterMap (·.1) = ks := by rfl)
    (hdb : (x == ("__debug__" : Str)) = false := by decide) (hpl : ((backTo pos (starEach [] X.env)).any (·.1) || (backToKw pos (keywordEach kws X.env)).any (·.1.isNone)) = false := by rfl) (hlen : ks.length = m := by rfl) (hK : X.K = K := by rfl) :
    DE X (Gf a c) (.Call (.Name x p) [] kws pos) (tCallP (lift K Gf C) 0 m perm dvs E0 tNil tk) (wCallP C 0 m perm dd wNil wk) := by subst hK; exact de_callK0 F hr hg hm hk hb hv hd hkw gl hall hks hdb hpl hlen
end
end L3
namespace L3
open PySem PySem.Spec PyProof.Rows L2
def kCells : Key := Sum.inr "cells"
def kBlend : Key := Sum.inr "blend"
def kDraws : Key := Sum.inr "draws"
theorem k_cb : kCells ≠ kBlend := by decide +kernel
theorem k_cd : kCells ≠ kDraws := by decide +kernel
theorem k_bd : kBlend ≠ kDraws := by decide +kernel
def dkv (c : Addr) (b t : Int) : List (Key × V) := [(kCells, .ref c), (kBlend, .int b), (kDraws, .int t)]
theorem dkv_c {c : Addr} {b t : Int} : valV (dkv c b t) kCells = some (.ref c) := valV_pos rfl
theorem dkv_b {c : Addr} {b t : Int} : valV (dkv c b t) kBlend = some (.int b) := (valV_neg k_cb).trans (valV_pos rfl)
theorem dkv_d {c : Addr} {b t : Int} : valV (dkv c b t) kDraws = some (.int t) := (valV_neg k_cd).trans ((valV_neg k_bd).trans (valV_pos rfl))
theorem dkv_put {c : Addr} {b t u : Int} : putK (dkv c b t) kDraws (.int u) = dkv c b u := by
  unfold putK
  rw [valV_any, dkv_d, if_pos (show (some (V.int t)).isSome = true from rfl)]
  show [if kCells = kDraws then (kCells, V.int u) else (kCells, .ref c), if kBlend = kDraws then (kBlend, V.int u) else (kBlend, .int b), if kDraws = kDraws then (kDraws, V.int u) else (kDraws, .int t)] = _
  rw [if_neg k_cd, if_neg k_bd, if_pos rfl]
  all_goals rfl
/-- the deck stands at p, its cells at c; at most n draws were made -/
def DkA (p c : Addr) (n : Nat) (H : Hp) : Prop := ∃ (ns : List Int) (b t : Int), H p = some (.dK (dkv c b t)) ∧ H c = some (.lst (ns.map V.int)) ∧ ns.length ≤ 63 ∧ 0 ≤ b ∧ b < 2147483587 ∧ 0 ≤ t ∧ t ≤ n
def GA (cls : Nat → Addr) (fld : Nat → List Str) (p c : Addr) : Gx where
  cls := cls
  fld := fld
  deck := p
  dk := [p, c]
  DI := DkA p c
  frame := fun n H H' h ⟨ns, b, t, h1, h2, h3⟩ => ⟨ns, b, t, h p (by simp) _ h1, h c (by simp) _ h2, h3⟩
  dal := fun n H ⟨ns, b, t, h1, h2, _⟩ a ha => by
    have ha : a = p ∨ a = c := by simpa using ha
    rcases ha with z | z
    · rw [z, h1]; simp
    · rw [z, h2]; simp
/-- most draws that a law may make -/
def mostDraws : Nat := 2 ^ 40
/-- a draw: any number below the bound -/
def CdrawA : Con := fun ds n Q => ∃ m : Int, ds = [.deck, .int m] ∧ 1 ≤ m ∧ m.natAbs.log2 < 9000 ∧ n < mostDraws ∧ ∀ r : Int, 0 ≤ r → r < m → Q (.int r) (n + 1)
theorem dp_ints {K : PySem.W.Frag} {H : Hp} : ∀ ns : List Int, DpAll K H (ns.map V.int) (ns.map PyData.int)
  | [] => .nil
  | n :: ns => .cons (.int n) (dp_ints ns)
theorem lay_ints : ∀ ns : List Int, PyData.canLayAll0 (ns.map PyData.int) = true
  | [] => rfl
  | n :: ns => by
    show (PyData.canLay0 (.int n) && PyData.canLayAll0 (ns.map PyData.int)) = true
    rw [lay_ints ns]
    rfl
theorem depth_ints : ∀ ns : List Int, PyData.depthAll (ns.map PyData.int) = 0
  | [] => rfl
  | n :: ns => by
    show max (PyData.depth (.int n)) (PyData.depthAll (ns.map PyData.int)) = 0
    rw [depth_ints ns]
    rfl
theorem shaped_ints (ns : List Int) : SeqAt.shaped (.list (ns.map PyData.int)) = true := by
  unfold SeqAt.shaped
  rw [Bool.and_eq_true]
  refine ⟨lay_ints ns, decide_eq_true ?_⟩
  show PyData.depthAll (ns.map PyData.int) + 1 ≤ 64
  rw [depth_ints]
  omega
theorem shaped_tints (ns : List Int) : SeqAt.shaped (.tuple (ns.map PyData.int)) = true := by
  unfold SeqAt.shaped
  rw [Bool.and_eq_true]
  refine ⟨lay_ints ns, decide_eq_true ?_⟩
  show PyData.depthAll (ns.map PyData.int) + 1 ≤ 64
  rw [depth_ints]
  omega
theorem eqv_ints_nil (ns : List Int) : PyData.eqv (.list (ns.map PyData.int)) (.list []) = ns.isEmpty := by
  cases ns <;> rfl
section
variable {K : PySem.W.Frag} {cls : Nat → Addr} {fld : Nat → List Str}
/-- what a draw does ahead of its own mixing -/
def tDrawA (K : PySem.W.Frag) (rest : TS) : TS :=
  tSeq (sDPut (tVar 0) (tC (.str "draws")) (tOp (rI0 fun i j => .int (i + j)) (tDGet (tVar 0) (tC (.str "draws"))) (tC (.int 1))))
  (tSeq (tPar 2 3 (tCons (tDGet (tVar 0) (tC (.str "draws"))) (tCons (tDGet (tVar 0) (tC (.str "blend"))) tNil)))
  (tSeq (tIfS (tTest (tOp (rNeD K) (tDGet (tVar 0) (tC (.str "cells"))) (tLst tNil)))
    (tSeq (tAsg (tBM0 K "list" rPop (tDGet (tVar 0) (tC (.str "cells")))) (gName 3))
    (tSeq (tIfS (tTest (tOp (rI0 fun i j => .bl (decide (j ≤ i))) (tVar 3) (tOp (rI CPow fun i j => .int (i ^ j.toNat)) (tC (.int 10)) (tC (.int 18)))))
      (tSeq (tDrop (tBM K "list" rAppend (tDGet (tVar 0) (tC (.str "cells"))) (tCons (tOp (rI CDivA fun i j => .int (i.fdiv j)) (tVar 3) (tVar 1)) tNil)))
        (tRet (tOp (rI (fun _ j => j ≠ 0) fun i j => .int (i.fmod j)) (tCB (fun xs H Q => (∃ i, xs = [.int i] ∧ Q (.int i) H) ∨ ∃ k, xs = [.bl k] ∧ Q (.int (if k then 1 else 0)) H) (tCons (tVar 3) tNil)) (tVar 1)))) tNext)
      (tAsg (tOp (rI0 fun i j => .int (i + j)) (tVar 3) (tDGet (tVar 0) (tC (.str "blend")))) (gName 3)))) tNext) rest))
theorem rd_drawA {rest : TS} {wr : WS} {N : List Str} {vs : List V} {H : Hp} {Q : VK} {Ex : XK} (hN : 4 ≤ N.length) (hs : ∀ p c, SimS K (GA cls fld p c) rest wr)
    (hw : ∀ (m turn cell : Int) (n : Nat) (Qd : D → Nat → Prop), 1 ≤ m → m.natAbs.log2 < 9000 → 0 ≤ turn → turn ≤ 2 ^ 40 → (∀ r : Int, 0 ≤ r → r < m → Qd (.int r) n) →
      wr ⟨fun δ => Qd .non δ.n, Qd, fun _ => False, fun _ => False⟩ ⟨some (.sh .deck) :: some (.sh (.int m)) :: some (.sh (.int turn)) :: some (.sh (.int cell)) :: List.replicate (N.length - 4) none, n⟩)
    (h : lift K (GA cls fld) CdrawA vs H Q Ex) : tDrawA K rest { nx := fun _ H' => Q .non H', rt := Q } (L2.start N vs) H := by
  obtain ⟨p, c, ads, ds, n, Qd, hk, ha, di, r, ⟨m, rfl, m1, m2, hn, hq⟩, q⟩ := h
  have S0 := start_sr (N := N) (am := fun _ => 0) hk ha di r
  obtain ⟨x, xs, rfl, e1, y, ys, rfl, e2, e3⟩ := r
  have e1 : x = .ref p := e1
  have e2 : y = .int m := e2
  have e3 : ys = [] := e3
  subst e1 e2 e3
  obtain ⟨ns, b, t, h1, h2, hl, b0, b1, t0, t1⟩ := di
  have pc : p ≠ c := ne_of h1 h2 (by intro z; cases z)
  obtain ⟨L, hL⟩ : ∃ L, N.length = L + 4 := ⟨N.length - 4, by omega⟩
  have st : L2.start N [.ref p, .int m] = some (.ref p) :: some (.int m) :: none :: none :: List.replicate L none := by
    unfold L2.start
    rw [show N.length - ([V.ref p, V.int m] : List V).length = L + 2 by simp [hL]]
    rfl
  have st3 : start3 N [.deck, .int m] = some (.sh .deck) :: some (.sh (.int m)) :: none :: none :: List.replicate L none := by
    unfold start3
    rw [show N.length - ([D.deck, D.int m] : List D).length = L + 2 by simp [hL]]
    rfl
  have hL4 : N.length - 4 = L := by omega
  rw [hL4] at hw
  rw [st, st3] at S0
  rw [st]
  -- deck["draws"] = deck["draws"] + 1
  refine ⟨.ref p, rfl, p, .int t, rfl, ?_, t, 1, rfl, rfl, .ref p, rfl, p, _, rfl, DPut.k (k := kDraws) h1 (small1000 (by show 3 ≤ 1000; omega)), ?_⟩
  · have := DGet.k (k := kDraws) h1; rw [dkv_d] at this; exact this
  rw [dkv_put]
  have g1 : upd H p (.dK (dkv c b (t + 1))) p = some (.dK (dkv c b (t + 1))) := upd_same
  have g2 : upd H p (.dK (dkv c b (t + 1))) c = some (.lst (ns.map V.int)) := by rw [upd_ne pc.symm]; exact h2
  have gd : ∀ {H : Hp} {b t : Int}, H p = some (.dK (dkv c b t)) → DGet H p (.str "draws") (some (.int t)) := fun h => by
    have := DGet.k (k := kDraws) h; rw [dkv_d] at this; exact this
  have gb : ∀ {H : Hp} {b t : Int}, H p = some (.dK (dkv c b t)) → DGet H p (.str "blend") (some (.int b)) := fun h => by
    have := DGet.k (k := kBlend) h; rw [dkv_b] at this; exact this
  have gc : ∀ {H : Hp} {b t : Int}, H p = some (.dK (dkv c b t)) → DGet H p (.str "cells") (some (.ref c)) := fun h => by
    have := DGet.k (k := kCells) h; rw [dkv_c] at this; exact this
  -- turn, cell = deck["draws"], deck["blend"]
  refine ⟨.ref p, rfl, p, .int (t + 1), rfl, gd g1, .ref p, rfl, p, .int b, rfl, gb g1, _, _, rfl, ?_⟩
  -- the end by the rest
  have fin : ∀ (cell : Int) (H' : Hp) (ms : List Int), H' p = some (.dK (dkv c b (t + 1))) → H' c = some (.lst (ms.map V.int)) → ms.length ≤ 63 → (∀ x o, H x = some o → x ∉ [p, c] → H' x = some o) →
      rest { nx := fun _ H' => Q .non H', rt := Q } (some (.ref p) :: some (.int m) :: some (.int (t + 1)) :: some (.int cell) :: List.replicate L none) H' := fun cell H' ms k1 k2 k3 k4 => by
    have di' : DkA p c (n + 1) H' := ⟨ms, b, t + 1, k1, k2, k3, b0, b1, by omega, by omega⟩
    have S1 := (S0.after (n := n + 1) k4 di')
    have S2 := (S1.set_sh (i := 2) (v := .int (t + 1)) (d := .int (t + 1)) rfl).set_sh (i := 3) (v := .int cell) (d := .int cell) rfl
    refine hs p c _ _ _ _ _ _ S2 _ (hw m (t + 1) cell (n + 1) Qd m1 m2 (by omega) ?_ hq) _ ⟨fun am M σ δ H' S' z => q .non .non _ H' S'.base S'.di rfl z, fun _ _ _ _ _ _ z => z, fun _ _ _ _ _ _ z => z, fun v d n' H' rv hb di z => q v d n' H' hb di rv z⟩
    have : n < 2 ^ 40 := hn
    omega
  -- if deck["cells"] != []
  refine ⟨.ref p, rfl, p, .ref c, rfl, gc g1, Nat.zero_le _, fun l hl0 => ?_⟩
  have lp : p ≠ l := ne_of_none g1 hl0
  have lc : c ≠ l := ne_of_none g2 hl0
  have f1 : upd (upd H p (.dK (dkv c b (t + 1)))) l (.lst []) p = some (.dK (dkv c b (t + 1))) := by rw [upd_ne lp]; exact g1
  have f2 : upd (upd H p (.dK (dkv c b (t + 1)))) l (.lst []) c = some (.lst (ns.map V.int)) := by rw [upd_ne lc]; exact g2
  have f0 : ∀ x o, H x = some o → x ∉ [p, c] → upd (upd H p (.dK (dkv c b (t + 1)))) l (.lst []) x = some o := fun x o hx hn => by
    have n1 : x ≠ p := fun z => hn (by simp [z])
    have n2 : x ≠ l := by
      refine ne_of_none (H := upd H p (.dK (dkv c b (t + 1)))) (o := o) ?_ hl0
      rw [upd_ne n1]; exact hx
    rw [upd_ne n2, upd_ne n1]; exact hx
  refine ⟨.list (ns.map PyData.int), .list [], .lst (SqL.of f2) (dp_ints ns), .lst (SqL.of upd_same) .nil, shaped_ints ns, rfl, _, rfl, ?_⟩
  rw [eqv_ints_nil]
  cases hns : ns with
  | nil =>
    rw [hns] at f2
    exact fin b _ [] f1 f2 (Nat.zero_le _) f0
  | cons n0 ns0 =>
    rw [if_pos (show (!(n0 :: ns0).isEmpty) = true from rfl)]
    rw [hns] at f2 hl
    obtain ⟨ms, z, ez⟩ : ∃ ms z, n0 :: ns0 = ms ++ [z] := ⟨(n0 :: ns0).dropLast, (n0 :: ns0).getLast (List.cons_ne_nil _ _), (List.dropLast_concat_getLast _).symm⟩
    rw [ez] at f2 hl
    have em : (ms ++ [z]).map V.int = ms.map V.int ++ [V.int z] := by rw [List.map_append]; rfl
    rw [em] at f2
    have lm : ms.length ≤ 62 := by rw [List.length_append] at hl; simp at hl; omega
    -- cell = deck["cells"].pop()
    refine ⟨.ref p, rfl, p, .ref c, rfl, gc f1, .inl ⟨rfl, _, SqL.of f2⟩, c, _, .int z, rfl, rfl, f2, by simp, ?_⟩
    rw [List.dropLast_concat]
    have u1 : upd (upd (upd H p (.dK (dkv c b (t + 1)))) l (.lst [])) c (.lst (ms.map V.int)) p = some (.dK (dkv c b (t + 1))) := by rw [upd_ne pc]; exact f1
    have u0 : ∀ (o' : HO) x o, H x = some o → x ∉ [p, c] → upd (upd (upd H p (.dK (dkv c b (t + 1)))) l (.lst [])) c o' x = some o := fun o' x o hx hn => by
      have n1 : x ≠ c := fun w => hn (by simp [w])
      rw [upd_ne n1]; exact f0 x o hx hn
    -- if cell >= 10 ** 18
    refine ⟨.int z, rfl, 10, 18, rfl, rfl, ⟨by decide, by decide, by decide⟩, _, _, rfl, rfl, _, rfl, ite2 (fun _ => ?_) (fun _ => ?_)⟩
    · -- deck["cells"].append(cell // many); return int(cell) % many
      refine ⟨.ref p, rfl, p, .ref c, rfl, gc u1, .inl ⟨rfl, _, SqL.of upd_same⟩, .int z, rfl, .int m, rfl, z, m, rfl, rfl, ⟨by omega, m2⟩, c, _, _, rfl, rfl, upd_same, ?_, ?_⟩
      · rw [List.length_map]; exact small1000 (by omega)
      · refine ⟨.int z, rfl, .inl ⟨z, rfl, .int m, rfl, z, m, rfl, rfl, by omega, ?_⟩⟩
        have um : (upd (upd (upd (upd H p (.dK (dkv c b (t + 1)))) l (.lst [])) c (.lst (ms.map V.int))) c (.lst (ms.map V.int ++ [V.int (z.fdiv m)]))) = upd (upd (upd H p (.dK (dkv c b (t + 1)))) l (.lst [])) c (.lst (ms.map V.int ++ [V.int (z.fdiv m)])) := upd_upd
        rw [um]
        refine q (.int (z.fmod m)) (.int (z.fmod m)) (n + 1) _ (u0 _) ⟨ms ++ [z.fdiv m], b, t + 1, ?_, ?_, ?_, b0, b1, by omega, by omega⟩ rfl (hq _ (Int.fmod_nonneg_of_pos _ (by omega)) (Int.fmod_lt_of_pos _ (by omega)))
        · rw [upd_ne pc]; exact f1
        · rw [upd_same, List.map_append]; rfl
        · rw [List.length_append]; simp; omega
    · -- cell = cell + deck["blend"]
      refine ⟨.int z, rfl, .ref p, rfl, p, .int b, rfl, gb u1, z, b, rfl, rfl, ?_⟩
      exact fin (z + b) _ ms u1 upd_same (by omega) (u0 _)
end
end L3
namespace L3
open PySem PySem.Spec PyProof.Rows L2
abbrev tInt1 (ta : TA) : TE := tCB (fun xs H Q => (∃ i, xs = [.int i] ∧ Q (.int i) H) ∨ ∃ k, xs = [.bl k] ∧ Q (.int (if k then 1 else 0)) H) ta
abbrev tModN (a b : TE) : TE := tOp (rI (fun _ j => j ≠ 0) fun i j => .int (i.fmod j)) a b
abbrev tAddI (a b : TE) : TE := tOp (rI0 fun i j => .int (i + j)) a b
abbrev tMulI (a b : TE) : TE := tOp (rI CMul fun i j => .int (i * j)) a b
section
variable {K : PySem.W.Frag} {cls : Nat → Addr} {fld : Nat → List Str}
def tDeckA (K : PySem.W.Frag) (c0 k1 : Int) : TS :=
  tSeq (tPar 1 2 (tCons (tCB (fun xs H Q => ∃ p ys, xs = [.ref p] ∧ (SqL K H p ys ∨ SqT K H p ys) ∧ ∀ l, H l = none → Q (.ref l) (upd H l (.lst ys))) (tCons (tSl (rSlL K) (tVar 0) tNoPart (tPart (tC (.int 63)))) tNil)) (tCons (tC (.int c0)) tNil)))
  (tSeq (tFor (iList K (tVar 1)) (gName 3) (tAsg (tModN (tInt1 (tCons (tAddI (tAddI (tMulI (tVar 2) (tC (.int 48271))) (tModN (tInt1 (tCons (tVar 3) tNil)) (tC (.int 2147483629)))) (tC (.int k1))) tNil)) (tC (.int 2147483587))) (gName 2)))
  (tRet (tDisp [(tC (.str "cells"), tRevL K (tVar 1)), (tC (.str "blend"), tVar 2), (tC (.str "draws"), tC (.int 0))])))
def spDeckA (K : PySem.W.Frag) : Sp := fun vs H Q _ => ∃ (a : Addr) (ns : List Int), vs = [.ref a] ∧ SqL K H a (ns.map V.int) ∧ ns.length ≤ 63 ∧
  ∀ (p c : Addr) (H' : Hp), Same H H' → DkA p c 0 H' → H p = none → H c = none → Q (.ref p) H'
theorem merge_dkv {q : Addr} {b t : Int} : mergeK [] (dkv q b t) = dkv q b t := by
  show putK (putK (putK [] kCells (.ref q)) kBlend (.int b)) kDraws (.int t) = _
  have e1 : putK ([] : List (Key × V)) kCells (.ref q) = [(kCells, .ref q)] := putK_new _ rfl
  have e2 : putK [(kCells, V.ref q)] kBlend (.int b) = [(kCells, .ref q), (kBlend, .int b)] := putK_new _ ((valV_neg k_cb).trans rfl)
  have e3 : putK [(kCells, V.ref q), (kBlend, V.int b)] kDraws (.int t) = [(kCells, .ref q), (kBlend, .int b), (kDraws, .int t)] := putK_new _ ((valV_neg k_cd).trans ((valV_neg k_bd).trans rfl))
  rw [e1, e2, e3]
  all_goals rfl
theorem rd_deckA {c0 k1 : Int} {N : List Str} {vs : List V} {H : Hp} {Q : VK} {Ex : XK} (hN : N.length = 4) (hc0 : 0 ≤ c0 ∧ c0 < 2147483587) (h : spDeckA K vs H Q Ex) : tDeckA K c0 k1 { nx := fun _ H' => Q .non H', rt := Q } (L2.start N vs) H := by
  obtain ⟨a, ns, rfl, hS, hl, q⟩ := h
  have st : L2.start N [.ref a] = [some (.ref a), none, none, none] := by
    unfold L2.start
    rw [show N.length - ([V.ref a] : List V).length = 3 by simp [hN]]
    rfl
  rw [st]
  -- cells, blend = list(script[:63]), c0
  refine ⟨.ref a, rfl, 63, rfl, a, _, rfl, hS, fun p1 hp1 => ?_⟩
  have s1 := same_new (o := .lst (cutV (ns.map V.int) none (some 63))) hp1
  refine ⟨p1, _, rfl, .inl (SqL.of upd_same), fun l hl0 => ?_⟩
  have ecut : cutV (ns.map V.int) none (some 63) = ns.map V.int := by
    unfold cutV
    rw [HT.sIx_none, show HT.sIx (ns.map V.int).length (ns.map V.int).length (some 63) = min 63 (ns.map V.int).length from HT.sIx_nat _ _ 63, List.length_map, Nat.sub_zero, List.drop_zero]
    exact List.take_of_length_le (by rw [List.length_map]; omega)
  rw [ecut] at s1 hl0 ⊢
  have s2 := s1.trans (same_new (o := .lst (ns.map V.int)) hl0)
  refine ⟨_, _, rfl, ?_⟩
  -- the loop
  have hlst : upd (upd H p1 (.lst (ns.map V.int))) l (.lst (ns.map V.int)) l = some (.lst (ns.map V.int)) := upd_same
  refine ⟨.ref l, rfl, l, rfl, ⟨_, SqL.of hlst⟩, for_list (K := K) (a := l) (xs := ns.map V.int) (fun i σ H3 => ∃ (b : Int) (x : Option V), σ = [some (.ref a), some (.ref l), some (.int b), x] ∧ H3 = upd (upd H p1 (.lst (ns.map V.int))) l (.lst (ns.map V.int)) ∧ 0 ≤ b ∧ b < 2147483587)
    ⟨c0, none, rfl, rfl, hc0⟩ (fun i σ H3 _ ⟨_, _, _, e, _⟩ => by rw [e]; exact SqL.of hlst) ?_ ?_⟩
  · rintro i x σ H3 hx ⟨b, y, rfl, rfl, b0, b1⟩
    obtain ⟨z, rfl⟩ : ∃ z, x = V.int z := by
      rw [List.getElem?_map] at hx
      cases e : ns[i]? with
      | none => rw [e] at hx; cases hx
      | some z => rw [e] at hx; exact ⟨z, (Option.some.inj hx).symm⟩
    refine ⟨.int b, rfl, b, 48271, rfl, rfl, .inl ⟨by omega, by omega⟩, .int z, rfl, .inl ⟨z, rfl, z, 2147483629, rfl, rfl, (show (2147483629 : Int) ≠ 0 by decide), _, _, rfl, rfl, _, _, rfl, rfl, .inl ⟨_, rfl, _, 2147483587, rfl, rfl, (show (2147483587 : Int) ≠ 0 by decide), ?_⟩⟩⟩
    exact ⟨_, _, rfl, rfl, Int.fmod_nonneg_of_pos _ (by decide), Int.fmod_lt_of_pos _ (by decide)⟩
  · rintro σ H3 ⟨b, y, rfl, rfl, b0, b1⟩
    -- return {..}
    intro p hp
    have pl : l ≠ p := ne_of_none hlst hp
    refine ⟨.ref l, rfl, l, _, rfl, SqL.of (by rw [upd_ne pl]; exact hlst), fun c hc => ?_⟩
    have pc : p ≠ c := ne_of_none (H := upd _ p (.dK [])) upd_same hc
    refine ⟨.int b, rfl, by rw [upd_ne pc, upd_same], dkv c b 0, rfl, (show 3 ≤ 15 by omega), ?_⟩
    rw [merge_dkv]
    have sp : Same _ _ := same_new (o := .dK []) hp
    have s3 : Same H (upd (upd (upd (upd H p1 (.lst (ns.map V.int))) l (.lst (ns.map V.int))) p (.dK [])) c (.lst (ns.map V.int).reverse)) := (s2.trans (same_new hp)).trans (same_new hc)
    refine q p c _ (fun x o hx => ?_) ⟨ns.reverse, b, 0, upd_same, ?_, by rw [List.length_reverse]; exact hl, b0, b1, Int.le_refl _, Int.le_refl _⟩ (s2.free hp) ((s2.trans (same_new hp)).free hc)
    · rw [upd_ne (ne_of_none (s2 _ _ hx) hp)]
      exact s3 x o hx
    · rw [upd_ne pc.symm, upd_same, List.map_reverse]
/-- the law: its deck, then the rest over data; it hands back True -/
def spLaw (K : PySem.W.Frag) : Sp := fun vs H Q _ => ∃ (a : Addr) (ns : List Int), vs = [.ref a] ∧ SqL K H a (ns.map V.int) ∧ ns.length ≤ 63 ∧ ∀ H', Q (.bl true) H'
theorem rd_lawA {rest : TS} {wr : WS} {N : List Str} {vs : List V} {H : Hp} {Q : VK} {Ex E1 : XK} (hN : 2 ≤ N.length) (hs : ∀ p c, SimS K (GA cls fld p c) rest wr)
    (hw : wr ⟨fun _ => False, fun d _ => d = .bl true, fun _ => False, fun _ => False⟩ ⟨none :: some (.sh .deck) :: List.replicate (N.length - 2) none, 0⟩)
    (h : spLaw K vs H Q Ex) : tSeq (tAsg (tCall (spDeckA K) [] E1 (tCons (tVar 0) tNil)) (gName 1)) rest { nx := fun _ H' => Q .non H', rt := Q } (L2.start N vs) H := by
  obtain ⟨a, ns, rfl, hS, hl, q⟩ := h
  obtain ⟨L, hL⟩ : ∃ L, N.length = L + 2 := ⟨N.length - 2, by omega⟩
  have st : L2.start N [.ref a] = some (.ref a) :: none :: List.replicate L none := by
    unfold L2.start
    rw [show N.length - ([V.ref a] : List V).length = L + 1 by simp [hL]]
    rfl
  rw [show N.length - 2 = L by omega] at hw
  rw [st]
  refine ⟨.ref a, rfl, a, ns, rfl, hS, hl, fun p c H1 s1 dk hp hc => ?_⟩
  have dk' := dk
  obtain ⟨cs, b, t, h1, h2, _⟩ := dk'
  have S : SR K (GA cls fld p c) ⟨H1, [p, c], []⟩ (fun _ => 0) [p, c] (some (.ref a) :: some (.ref p) :: List.replicate L none) ⟨none :: some (.sh .deck) :: List.replicate L none, 0⟩ H1 := by
    have no : ∀ (i : Nat) (x : SV), (none :: some (.sh .deck) :: List.replicate L none : List (Option SV))[i]? = some (some x) → i = 1 ∧ x = .sh .deck := fun i x e => by
      match i with
      | 0 => cases e
      | 1 => exact ⟨rfl, by injection e with e; injection e with e; exact e.symm⟩
      | i + 2 =>
        have e : (List.replicate L (none : Option SV))[i]? = some (some x) := e
        rw [List.getElem?_replicate] at e
        split at e <;> cases e
    refine ⟨by simp, fun i d e => ?_, fun i d e => ?_, fun i j ⟨d, e⟩ _ _ => ?_, fun a z => z, fun a z => z, fun a z => ?_, fun b o e _ => e, dk, fun p hp => by cases hp⟩
    · obtain ⟨rfl, e2⟩ := no i _ e
      cases e2
      exact ⟨_, rfl, rfl⟩
    · obtain ⟨_, e2⟩ := no i _ e
      cases e2
    · obtain ⟨_, e2⟩ := no i _ e
      cases e2
    · exact (GA cls fld p c).dal 0 H1 dk a z
  exact hs p c _ _ _ _ _ _ S _ hw _ ⟨fun _ _ _ _ _ _ z => z.elim, fun _ _ _ _ _ _ z => z.elim, fun _ _ _ _ _ _ z => z.elim, fun v d n H' rv _ _ z => by
    have z : d = .bl true := z
    subst z
    have rv : v = .bl true := rv
    subst rv
    exact q H'⟩
end
end L3
namespace L3
open PySem PySem.Spec PyProof.Rows L2
theorem wLoop_of {g : WG} {b : WS} {De : Ends3} (I : Nat → St3 → Prop) : ∀ (ds : List D) (k : Nat) (δ : St3), I k δ →
    (∀ (i : Nat) (d : D) (δ : St3), ds[i]? = some d → I (k + i) δ → ∀ N : St3 → Prop, (∀ δ, I (k + i + 1) δ → N δ) → g d δ fun δ1 => b ⟨N, De.rt, De.nx, N⟩ δ1) →
    (∀ δ, I (k + ds.length) δ → De.nx δ) → wLoop g b De ds δ
  | [], k, δ, h0, _, hn => hn δ h0
  | d :: ds, k, δ, h0, hs, hn => hs 0 d δ rfl h0 _ fun δ1 h1 => wLoop_of I ds (k + 1) δ1 h1 (fun i d' δ' hd hi N hN => hs (i + 1) d' δ' hd (by rw [show k + (i + 1) = k + 1 + i by omega]; exact hi) N fun δ2 h2 => hN δ2 (by rw [show k + 1 + i + 1 = k + (i + 1) + 1 by omega]; exact h2))
      fun δ2 h2 => hn δ2 (by rw [show k + (d :: ds).length = k + 1 + ds.length by simp only [List.length_cons]; omega]; exact h2)
/-- a loop, by what holds ahead of the item of each index -/
theorem wLoop_inv {g : WG} {b : WS} {De : Ends3} {ds : List D} {δ : St3} (I : Nat → St3 → Prop) (h0 : I 0 δ)
    (hs : ∀ (i : Nat) (d : D) (δ : St3), ds[i]? = some d → I i δ → ∀ N : St3 → Prop, (∀ δ, I (i + 1) δ → N δ) → g d δ fun δ1 => b ⟨N, De.rt, De.nx, N⟩ δ1) (hn : ∀ δ, I ds.length δ → De.nx δ) : wLoop g b De ds δ :=
  wLoop_of I ds 0 δ h0 (fun i d δ hd hi N hN => hs i d δ hd (by rwa [Nat.zero_add] at hi) N fun δ h => hN δ (by rwa [Nat.zero_add])) fun δ h => hn δ (by rwa [Nat.zero_add] at h)
theorem wLc_of {g : WG} {t : WT} {w : WE} {vs : List Nat} {Q : List D → St3 → Prop} (I : Nat → List D → St3 → Prop) : ∀ (ds : List D) (k : Nat) (acc : List D) (δ : St3), I k acc δ →
    (∀ (i : Nat) (d : D) (acc : List D) (δ : St3), ds[i]? = some d → I (k + i) acc δ → ∀ N : List D → St3 → Prop, (∀ acc δ, I (k + i + 1) acc δ → N acc δ) → g d δ fun δ1 => t δ1 fun b δ2 =>
      (b = true → w δ2 fun q δ3 => ¬ q.bor ∧ acc.length < 16777216 ∧ N (acc ++ [q.d]) ⟨wipe3 δ3.sl vs, δ3.n⟩) ∧ (b = false → N acc ⟨wipe3 δ2.sl vs, δ2.n⟩)) →
    (∀ acc δ, I (k + ds.length) acc δ → Q acc δ) → wLcGo g t w vs Q ds acc δ
  | [], k, acc, δ, h0, _, hn => hn acc δ h0
  | d :: ds, k, acc, δ, h0, hs, hn => hs 0 d acc δ rfl h0 _ fun acc1 δ1 h1 => wLc_of I ds (k + 1) acc1 δ1 h1 (fun i d' acc' δ' hd hi N hN => hs (i + 1) d' acc' δ' hd (by rw [show k + (i + 1) = k + 1 + i by omega]; exact hi) N fun acc2 δ2 h2 => hN acc2 δ2 (by rw [show k + 1 + i + 1 = k + (i + 1) + 1 by omega]; exact h2))
      fun acc2 δ2 h2 => hn acc2 δ2 (by rw [show k + (d :: ds).length = k + 1 + ds.length by simp only [List.length_cons]; omega]; exact h2)
theorem wLc_inv {g : WG} {t : WT} {w : WE} {vs : List Nat} {Q : List D → St3 → Prop} {ds acc : List D} {δ : St3} (I : Nat → List D → St3 → Prop) (h0 : I 0 acc δ)
    (hs : ∀ (i : Nat) (d : D) (acc : List D) (δ : St3), ds[i]? = some d → I i acc δ → ∀ N : List D → St3 → Prop, (∀ acc δ, I (i + 1) acc δ → N acc δ) → g d δ fun δ1 => t δ1 fun b δ2 =>
      (b = true → w δ2 fun q δ3 => ¬ q.bor ∧ acc.length < 16777216 ∧ N (acc ++ [q.d]) ⟨wipe3 δ3.sl vs, δ3.n⟩) ∧ (b = false → N acc ⟨wipe3 δ2.sl vs, δ2.n⟩))
    (hn : ∀ acc δ, I ds.length acc δ → Q acc δ) : wLcGo g t w vs Q ds acc δ :=
  wLc_of I ds 0 acc δ h0 (fun i d acc δ hd hi N hN => hs i d acc δ hd (by rwa [Nat.zero_add] at hi) N fun acc δ h => hN acc δ (by rwa [Nat.zero_add])) fun acc δ h => hn acc δ (by rwa [Nat.zero_add] at h)
def isB : D → (Bool → Prop) → Prop
  | .bl k, Q => Q k
  | _, _ => False
@[simp] theorem isB_0  (k : Bool) (Q : Bool → Prop) : isB (.bl k) Q = (Q k) := rfl
theorem isB_eq (d : D) (Q : Bool → Prop) : (∃ k, d = .bl k ∧ Q k) = isB d Q := by
  cases d <;> simp [isB]
@[simp] theorem wTest_eq (w : WE) (δ : St3) (Q : Bool → St3 → Prop) : wTest w δ Q = w δ fun r δ1 => isB r.d fun k => Q k δ1 := by
  unfold wTest
  simp only [isB_eq]
@[simp] theorem wChain_eq (f f' : F2) (a b c : WE) (δ : St3) (Q : RD → St3 → Prop) : wChain f f' a b c δ Q = a δ fun x δ1 => b δ1 fun y δ2 => (x.bor → δ2.sl = δ1.sl) ∧ f x.d y.d fun q => isB q.d fun k =>
    (k = true → c δ2 fun z δ3 => (y.bor → δ3.sl = δ2.sl) ∧ f' y.d z.d fun q' => Q q' δ3) ∧ (k = false → Q (.sh (.bl false)) δ2) := by
  unfold wChain
  simp only [isB_eq]
@[simp] theorem wAndV_eq (a b : WE) (δ : St3) (Q : RD → St3 → Prop) : wAndV a b δ Q = a δ fun x δ1 => isB x.d fun k => (k = true → b δ1 Q) ∧ (k = false → Q (.sh (.bl false)) δ1) := by
  unfold wAndV
  simp only [isB_eq]
@[simp] theorem wOrV_eq (a b : WE) (δ : St3) (Q : RD → St3 → Prop) : wOrV a b δ Q = a δ fun x δ1 => isB x.d fun k => (k = false → b δ1 Q) ∧ (k = true → Q (.sh (.bl true)) δ1) := by
  unfold wOrV
  simp only [isB_eq]
@[simp] theorem wNotV_eq (a : WE) (δ : St3) (Q : RD → St3 → Prop) : wNotV a δ Q = a δ fun x δ1 => isB x.d fun k => Q (.sh (.bl (!k))) δ1 := by
  unfold wNotV
  simp only [isB_eq]
theorem log_lt {n k : Nat} (hk : 0 < k) (h : n < 2 ^ k) : n.log2 < k := by
  by_cases z : n = 0
  · subst z; simpa using hk
  · exact (Nat.log2_lt z).mpr h
/-- below 2 ^ k, either sign -/
def Sz (k : Nat) (i : Int) : Prop := i.natAbs < 2 ^ k
theorem Sz.mono {k l : Nat} {i : Int} (h : Sz k i) (hl : k ≤ l) : Sz l i := Nat.lt_of_lt_of_le h (Nat.pow_le_pow_right (by omega) hl)
theorem Sz.mul {k l : Nat} {i j : Int} (h : Sz k i) (h' : Sz l j) : Sz (k + l) (i * j) := by
  unfold Sz at *
  rw [Int.natAbs_mul, Nat.pow_add]
  exact Nat.mul_lt_mul'' h h'
theorem Sz.add {k l : Nat} {i j : Int} (h : Sz k i) (h' : Sz l j) : Sz (max k l + 1) (i + j) := by
  have a : Sz (max k l) i := h.mono (Nat.le_max_left _ _)
  have b : Sz (max k l) j := h'.mono (Nat.le_max_right _ _)
  unfold Sz at *
  have := Int.natAbs_add_le i j
  rw [Nat.pow_succ]
  omega
theorem Sz.neg {k : Nat} {i : Int} (h : Sz k i) : Sz k (-i) := by unfold Sz at *; rwa [Int.natAbs_neg]
theorem Sz.sub {k l : Nat} {i j : Int} (h : Sz k i) (h' : Sz l j) : Sz (max k l + 1) (i - j) := h.add h'.neg
theorem Sz.emod {k : Nat} {i j : Int} (h : Sz k j) (h0 : 0 < j) : Sz k (i.fmod j) := by
  unfold Sz at *
  have a := Int.fmod_nonneg_of_pos i h0
  have b := Int.fmod_lt_of_pos i h0
  omega
theorem Sz.of {k : Nat} {i : Int} (a : -(2 ^ k : Int) < i) (b : i < 2 ^ k) : Sz k i := by
  unfold Sz
  have : ((2 ^ k : Nat) : Int) = (2 : Int) ^ k := by simp
  omega
theorem Sz.pos {k : Nat} {i : Int} (a : 0 ≤ i) (b : i < 2 ^ k) : Sz k i := by
  refine Sz.of ?_ b
  have : (0 : Int) < 2 ^ k := Int.pow_pos (by omega)
  omega
theorem Sz.lt {k : Nat} {i : Int} (h : Sz k i) : i < 2 ^ k := by
  unfold Sz at h
  have : ((2 ^ k : Nat) : Int) = (2 : Int) ^ k := by simp
  omega
theorem Sz.log {k l : Nat} {i : Int} (h : Sz k i) (hl : k ≤ l) (h0 : 0 < k) : i.natAbs.log2 < l := Nat.lt_of_lt_of_le (log_lt h0 h) hl
theorem Sz.cmul {k l : Nat} {i j : Int} (h : Sz k i) (h' : Sz l j) (hs : k + l < 1000000) : CMulW i j := by
  have a : i.natAbs.log2 < k + 1 := log_lt (by omega) (h.mono (by omega : k ≤ k + 1))
  have b : j.natAbs.log2 < l + 1 := log_lt (by omega) (h'.mono (by omega : l ≤ l + 1))
  unfold CMulW
  omega
theorem Sz.cdiv {k : Nat} {i j : Int} (h : Sz k j) (h0 : j ≠ 0) (hk : k ≤ 9000) : CDivA i j := ⟨h0, by
  have : j.natAbs.log2 < k + 1 := log_lt (by omega) (h.mono (by omega : k ≤ k + 1))
  rcases Nat.eq_zero_or_pos k with z | z
  · subst z
    unfold Sz at h
    omega
  · exact Nat.lt_of_lt_of_le (log_lt z h) hk⟩
instance {k : Nat} {i : Int} : Decidable (Sz k i) := inferInstanceAs (Decidable (i.natAbs < 2 ^ k))
theorem Sz.n {k : Nat} {i : Int} (h : decide (i.natAbs < 2 ^ k) = true) : Sz k i := of_decide_eq_true h
theorem fmod_pos {i j : Int} (h : 0 ≤ j) : i.fmod j = i % j := Int.fmod_eq_emod_of_nonneg i h
theorem fdiv_pos {i j : Int} (h : 0 ≤ j) : i.fdiv j = i / j := Int.fdiv_eq_ediv_of_nonneg i h
def wMixA (a k e : Int) : WS :=
  wSeq (wAsg 4 (wOp fMod (wCB fInt (wCons (wOp fMul (wOp fAdd (wOp fAdd (wOp fMod (wCB fInt (wCons (wVar 3) wNil)) (wC (.int 2147483629))) (wOp fMul (wOp fMul (wC (.int a)) (wVar 2)) (wVar 2))) (wC (.int k))) (wC (.int 40692))) wNil)) (wC (.int 2147483647))))
    (wSeq (wAsg 4 (wOp fMod (wCB fInt (wCons (wOp fAdd (wOp fAdd (wOp fMul (wVar 4) (wVar 4)) (wOp fMul (wC (.int 69621)) (wVar 2))) (wC (.int e))) wNil)) (wC (.int 2147483587))))
    (wRet (wOp fMod (wCB fInt (wCons (wOp fFdiv (wOp fMod (wCB fInt (wCons (wOp fMul (wVar 4) (wC (.int 39373))) wNil)) (wC (.int 2147483563))) (wC (.int 64))) wNil)) (wVar 1))))
theorem mixA {a k e : Int} (ha : Sz 20 a) (hk : Sz 20 k) (m turn cell : Int) (n : Nat) (Qd : D → Nat → Prop) (m1 : 1 ≤ m) (m2 : m.natAbs.log2 < 9000) (t0 : 0 ≤ turn) (t1 : turn ≤ 2 ^ 40) (q : ∀ r : Int, 0 ≤ r → r < m → Qd (.int r) n) :
    wMixA a k e ⟨fun δ => Qd .non δ.n, Qd, fun _ => False, fun _ => False⟩ ⟨some (.sh .deck) :: some (.sh (.int m)) :: some (.sh (.int turn)) :: some (.sh (.int cell)) :: [none], n⟩ := by
  have ht : Sz 41 turn := .pos t0 (by omega)
  have h1 : Sz 31 (cell.fmod 2147483629) := Sz.emod (.n (by decide)) (by decide)
  have h2 : CMulW a turn := ha.cmul ht (by omega)
  have h3 : CMulW (a * turn) turn := (ha.mul ht).cmul ht (by omega)
  have h4 := (h1.add ((ha.mul ht).mul ht)).add hk
  have h5 : CMulW (cell.fmod 2147483629 + a * turn * turn + k) 40692 := h4.cmul (l := 31) (.n (by decide)) (by decide)
  have h6 : ∀ i : Int, Sz 31 (i.fmod 2147483647) := fun i => Sz.emod (.n (by decide)) (by decide)
  have h7 : ∀ i : Int, Sz 31 (i.fmod 2147483587) := fun i => Sz.emod (.n (by decide)) (by decide)
  have h8 : CMulW 69621 turn := Sz.cmul (k := 31) (.n (by decide)) ht (by decide)
  simp [wMixA, wSeq, wAsg, wOp, wCB, wCons, wNil, wVar, wC, wRet, svRD, RD.d, RD.bor, fMod, fI, fAdd, fMul, fInt, fFdiv, h2, h3, h5]
  refine ⟨(h6 _).cmul (h6 _) (by decide), h8, (h7 _).cmul (l := 31) (.n (by decide)) (by decide), ⟨by decide, by decide⟩, by omega, ?_⟩
  exact q _ (Int.fmod_nonneg_of_pos _ (by omega)) (Int.fmod_lt_of_pos _ (by omega))
theorem draw_le {n : Nat} {m : Int} {Q : D → Nat → Prop} (h1 : 1 ≤ m) (hs : Sz 9000 m) (hn : n < mostDraws) (q : ∀ r : Int, 0 ≤ r → r < m → Q (.int r) (n + 1)) : CdrawA [.deck, .int m] n Q := ⟨m, rfl, h1, hs.log (Nat.le_refl _) (by decide), hn, q⟩
/-- some of a list -/
def CpickA : Con := fun ds n Q => ∃ xs : List D, (ds = [.deck, .lst xs] ∨ ds = [.deck, .tup xs]) ∧ xs ≠ [] ∧ xs.length ≤ 1000 ∧ n < mostDraws ∧ ∀ x ∈ xs, Q x (n + 1)
theorem pick_ints {n : Nat} {xs : List D} {Q : D → Nat → Prop} (P : Int → Prop) (h0 : xs ≠ []) (hl : xs.length ≤ 1000) (hn : n < mostDraws) (hP : ∀ x ∈ xs, ∃ i, x = .int i ∧ P i) (q : ∀ i : Int, P i → Q (.int i) (n + 1)) : CpickA [.deck, .lst xs] n Q :=
  ⟨xs, .inl rfl, h0, hl, hn, fun x hx => by obtain ⟨i, rfl, hi⟩ := hP x hx; exact q i hi⟩
theorem atI_some {α : Type} {xs : List α} {i : Int} (h0 : 0 ≤ i) (h1 : i < xs.length) : ∃ x, x ∈ xs ∧ L2.atI xs i = some x := by
  obtain ⟨j, rfl⟩ := Int.eq_ofNat_of_zero_le h0
  have hi : j < xs.length := by omega
  exact ⟨xs[j], List.getElem_mem _, L2.atI_nat (List.getElem?_eq_getElem hi)⟩
theorem sz_len {n k : Nat} (h : n < 2 ^ k) : Sz k (n : Int) := by unfold Sz; simpa using h
theorem pow_sz {b : Int} {k : Nat} (h : Sz k b) : ∀ e : Nat, Sz (k * e + 1) (b ^ e)
  | 0 => by unfold Sz; simp
  | e + 1 => by
    rw [Int.pow_succ]
    exact ((pow_sz h e).mul h).mono (by rw [Nat.mul_succ]; omega)
end L3
namespace L3
open PySem PySem.Spec PyProof.Rows L2
structure Sh (d : D) (p : PyData) (h l : Nat) : Prop where
  py : d.py = some p
  sw : p.showable = true
  nd : p.hasDict = false
  dp : p.depth ≤ h
  ln : p.shown.length ≤ l
structure ShAll (ds : List D) (ps : List PyData) (h l : Nat) : Prop where
  py : D.pys ds = some ps
  sw : PyData.showableAll ps = true
  nd : PyData.hasDictAll ps = false
  dp : PyData.depthAll ps ≤ h
  ln : ((PyData.shownAll ps).map (·.length)).sum + 2 * (PyData.shownAll ps).length ≤ l
theorem Sh.int {i : Int} (h : Sz 1900 i) : Sh (.int i) (.int i) 0 601 where
  py := py_int i
  sw := decide_eq_true (h.log (l := 1920) (by omega) (by omega))
  nd := rfl
  dp := Nat.le_refl _
  ln := by
    have h2 : i.natAbs < 10 ^ 600 := Nat.lt_of_lt_of_le h (by decide +kernel)
    have e := int_text_length_le10 (k := 600) (by decide) h2
    show (Str.ofString (toString i)).length ≤ 601
    rw [PySem.ofString_length]; exact e
theorem Sh.bl {b : Bool} : Sh (.bl b) (.bool b) 0 5 where
  py := py_bl b
  sw := rfl
  nd := rfl
  dp := Nat.le_refl _
  ln := by cases b <;> decide
theorem Sh.non : Sh .non .none 0 4 where
  py := py_non
  sw := rfl
  nd := rfl
  dp := Nat.le_refl _
  ln := by decide
theorem ShAll.nil {h : Nat} : ShAll [] [] h 0 where
  py := by simp [D.pys]
  sw := rfl
  nd := rfl
  dp := Nat.zero_le _
  ln := Nat.le_refl _
theorem ShAll.cons {d : D} {ds : List D} {p : PyData} {ps : List PyData} {h h' l m : Nat} (a : Sh d p h' l) (b : ShAll ds ps h m) (hh : h' ≤ h) : ShAll (d :: ds) (p :: ps) h (l + 2 + m) where
  py := by simp [D.pys, a.py, b.py]
  sw := by simp [PyData.showableAll, a.sw, b.sw]
  nd := by simp [PyData.hasDictAll, a.nd, b.nd]
  dp := by
    have := a.dp
    have := b.dp
    simp only [PyData.depthAll]
    omega
  ln := by
    have := a.ln
    have := b.ln
    simp only [PyData.shownAll, List.map_cons, List.sum_cons, List.length_cons]
    omega
theorem Sh.lst {ds : List D} {ps : List PyData} {h l : Nat} (a : ShAll ds ps h l) : Sh (.lst ds) (.list ps) (h + 1) (l + 3) where
  py := by simp [D.py, a.py]
  sw := a.sw
  nd := a.nd
  dp := Nat.succ_le_succ a.dp
  ln := by
    have := listText_len_le (PyData.shownAll ps)
    have := a.ln
    simp only [PyData.shown]
    omega
theorem Sh.tup {ds : List D} {ps : List PyData} {h l : Nat} (a : ShAll ds ps h l) : Sh (.tup ds) (.tuple ps) (h + 1) (l + 3) where
  py := by simp [D.py, a.py]
  sw := a.sw
  nd := a.nd
  dp := Nat.succ_le_succ a.dp
  ln := by
    have := tupleText_len_le (PyData.shownAll ps)
    have := a.ln
    simp only [PyData.shown]
    omega
theorem Sh.repr {d : D} {p : PyData} {h l : Nat} {Q : RD → Prop} (a : Sh d p h l) (hh : h ≤ 30) (hl : l ≤ 16777216) (q : Q (.sh (.str p.shown))) : fRepr [d] Q := by
  refine ⟨p, a.py, a.sw, a.nd, Nat.le_trans a.dp hh, Nat.le_trans a.ln hl, q⟩
theorem ShAll.ints : ∀ {ns : List Int}, (∀ n ∈ ns, Sz 1900 n) → ShAll (ns.map D.int) (ns.map PyData.int) 0 (603 * ns.length)
  | [], _ => .nil
  | n :: ns, h => by
    have := ShAll.cons (Sh.int (h n List.mem_cons_self)) (ShAll.ints (ns := ns) fun m hm => h m (List.mem_cons_of_mem _ hm)) (Nat.le_refl _)
    refine ⟨this.py, this.sw, this.nd, this.dp, Nat.le_trans this.ln ?_⟩
    simp only [List.length_cons]
    omega
theorem Sh.mono {d : D} {p : PyData} {h h' l l' : Nat} (a : Sh d p h l) (hh : h ≤ h') (hl : l ≤ l') : Sh d p h' l' := ⟨a.py, a.sw, a.nd, Nat.le_trans a.dp hh, Nat.le_trans a.ln hl⟩
theorem ShAll.mono {d : List D} {p : List PyData} {h h' l l' : Nat} (a : ShAll d p h l) (hh : h ≤ h') (hl : l ≤ l') : ShAll d p h' l' := ⟨a.py, a.sw, a.nd, Nat.le_trans a.dp hh, Nat.le_trans a.ln hl⟩
end L3
namespace L3
open PySem PySem.Spec PyProof.Rows L2
@[simp] theorem flat_int (i : Int) : D.flat (.int i) = true := rfl
@[simp] theorem flat_str (i : Str) : D.flat (.str i) = true := rfl
@[simp] theorem flat_bl (i : Bool) : D.flat (.bl i) = true := rfl
@[simp] theorem flat_non : D.flat .non = true := rfl
@[simp] theorem inD_nil (d : D) : inD d [] = false := rfl
@[simp] theorem inD_int (i j : Int) (ds : List D) : inD (.int i) (.int j :: ds) = (decide (i = j) || inD (.int i) ds) := by
  have e : eqV (V.int j) (V.int i) = decide (i = j) := by
    show (j == i) = decide (i = j)
    rw [Bool.eq_iff_iff, beq_iff_eq, decide_eq_true_eq]
    exact ⟨Eq.symm, Eq.symm⟩
  unfold inD inV
  simp [D.v, e]
@[simp] theorem inD_str (i j : Str) (ds : List D) : inD (.str i) (.str j :: ds) = (decide (i = j) || inD (.str i) ds) := by
  have e : eqV (V.str j) (V.str i) = decide (i = j) := by
    show (j == i) = decide (i = j)
    rw [Bool.eq_iff_iff, beq_iff_eq, decide_eq_true_eq]
    exact ⟨Eq.symm, Eq.symm⟩
  unfold inD inV
  simp [D.v, e]
end L3
namespace Pg
open PySem PySem.Spec PyProof.Rows L2 L3
abbrev C_l_draw : Con := CdrawA
abbrev C_l_pick : Con := CpickA
def C_last_digit : Con := fun ds n Q => ∃ (b m : Int) (e : Nat), ds = [.int (m * b ^ e), .int b] ∧ 2 ≤ b ∧ Sz 30 b ∧ m % b ≠ 0 ∧ Q (.int (m % b)) n
/-- the digits of k, the last one first -/
inductive Dig (b : Int) : Int → List Int → Prop
  | nil : Dig b 0 []
  | cons {k : Int} {L : List Int} : 0 < k → Dig b (k / b) L → Dig b k (k % b :: L)
def C_l_digits : Con := fun ds n Q => ∃ (k b : Int) (L : List Int), ds = [.int k, .int b] ∧ 2 ≤ b ∧ Sz 30 b ∧ Dig b k L ∧ L.length < 16777216 ∧ Q (.lst (L.map D.int)) n
def C_l_integer : Con := fun ds n Q => ∃ b : Int, ds = [.deck, .int b] ∧ 2 ≤ b ∧ Sz 30 b ∧ n + 4 ≤ mostDraws ∧ ∀ (k : Int) (n' : Nat), 1 ≤ k → Sz 1000 k → n' ≤ n + 4 → Q (.int k) n'
end Pg
namespace Pg
open PySem PySem.Spec PyProof.Rows L2 L3
abbrev N_last_digit : List Str := ["number", "base", "left"]
abbrev N_l_deck : List Str := ["_law_script", "_law_cells", "_law_blend", "_law_cell"]
abbrev N_l_draw : List Str := ["_law_deck_here", "_law_many", "_law_turn", "_law_cell", "_law_held"]
abbrev N_l_pick : List Str := ["_law_deck_here", "_law_some"]
abbrev N_l_digits : List Str := ["_law_k", "_law_by", "_law_found"]
abbrev N_l_integer : List Str := ["_law_deck_here", "_law_by", "_law_far", "_law_kind", "_law_found", "_law_go"]
abbrev N_law : List Str := ["_law_script", "_law_deck_here", "_law_go", "_law_by", "_law_k", "_law_due", "_law_x", "_law_more"]
def w_last_digit : WS :=
  (wSeq (wAsg 2 (wVar 0))
    (wSeq (wWhile (wTest (wOp (fEq false) (wOp fMod (wVar 2) (wVar 1)) (wC (.int 0)))) (wAsg 2 (wOp fFdiv (wVar 2) (wVar 1))))
    (wRet (wOp fMod (wVar 2) (wVar 1)))))
def w_l_pick : WS :=
  (wRet (wOp fIx (wVar 1) (wCall C_l_draw [] (wCons (wVar 0) (wCons (wCB fLen (wCons (wVar 1) wNil)) wNil)))))
def w_l_digits : WS :=
  (wSeq (wAsgO 2 (wLst wNil))
    (wSeq (wWhile (wTest (wOp fGt (wVar 0) (wC (.int 0)))) (wSeq (wAppend 2 (wOp fMod (wCB fInt (wCons (wVar 0) wNil)) (wVar 1)))
    (wAsg 0 (wOp fFdiv (wVar 0) (wVar 1)))))
    (wRet (wVar 2))))
def w_l_integer : WS :=
  (wSeq (wPar2 2 false 3 false (wCall C_l_pick [] (wCons (wVar 0) (wCons (wLst (wCons (wC (.int 10)) (wCons (wC (.int 1000)) (wCons (wOp fPow (wC (.int 10)) (wC (.int 12))) (wCons (wOp fPow (wC (.int 10)) (wC (.int 40))) wNil))))) wNil))) (wCall C_l_draw [] (wCons (wVar 0) (wCons (wC (.int 4)) wNil))))
    (wSeq (wAsg 4 (wOp fAdd (wC (.int 1)) (wCall C_l_draw [] (wCons (wVar 0) (wCons (wVar 2) wNil)))))
    (wSeq (wIfS (wTest (wOp (fEq false) (wVar 3) (wC (.int 0)))) (wRet (wVar 4)) wNext)
    (wSeq (wFor (wRng1 (wCons (wCall C_l_draw [] (wCons (wVar 0) (wCons (wC (.int 12)) wNil))) wNil)) (gN 5) (wAsg 4 (wOp fMul (wVar 4) (wVar 1))))
    (wRet (wCB fMax2 (wCons (wC (.int 1)) (wCons (wOp fAdd (wVar 4) (wOp fIx (wLst (wCons (wC (.int 0)) (wCons (wC (.int 1)) (wCons (wUn fNeg (wC (.int 1))) wNil)))) (wOp fSub (wVar 3) (wC (.int 1))))) wNil))))))))
def w_law : WS :=
  (wSeq (wFor (wRng1 (wCons (wC (.int 40)) wNil)) (gN 2) (wSeq (wAsg 3 (wCall C_l_pick [] (wCons (wVar 1) (wCons (wLst (wCons (wC (.int 2)) (wCons (wC (.int 3)) (wCons (wC (.int 4)) (wCons (wC (.int 5)) (wCons (wC (.int 6)) (wCons (wC (.int 7)) (wCons (wC (.int 10)) (wCons (wC (.int 12)) (wCons (wC (.int 36)) (wCons (wC (.int 97)) (wCons (wC (.int 1000)) (wCons (wOp fPow (wC (.int 10)) (wC (.int 6))) (wCons (wOp fAdd (wC (.int 2)) (wCall C_l_draw [] (wCons (wVar 1) (wCons (wC (.int 35)) wNil)))) wNil)))))))))))))) wNil))))
    (wSeq (wAsg 4 (wCall C_l_integer [] (wCons (wVar 1) (wCons (wVar 3) wNil))))
    (wSeq (wAsg 5 (wOp fIx (wLc (wItems asS (wCall C_l_digits [] (wCons (wVar 4) (wCons (wVar 3) wNil)))) (gN 6) (wTest (wOp (fEq true) (wVar 6) (wC (.int 0)))) (wVar 6) [6]) (wC (.int 0))))
    (wSeq (wIfS (wTest (wOp (fEq true) (wCB fRepr (wCons (wLst (wCons (wCall C_last_digit [] (wCons (wVar 4) (wCons (wVar 3) wNil))) (wCons (wCallP C_last_digit 0 2 [1, 0] [] wNil (wCons (wVar 3) (wCons (wVar 4) wNil))) (wCons (wCall C_last_digit [] (wCons (wOp fMul (wVar 4) (wVar 3)) (wCons (wVar 3) wNil))) wNil)))) wNil)) (wCB fRepr (wCons (wOp fMul (wLst (wCons (wVar 5) wNil)) (wC (.int 3))) wNil)))) (wRet (wC (.bl false))) wNext)
    (wSeq (wAsg 7 (wOp fAdd (wC (.int 1)) (wCall C_l_draw [] (wCons (wVar 1) (wCons (wOp fSub (wVar 3) (wC (.int 1))) wNil)))))
    (wIfS (wAnd (wTest (wOp (fIn false) (wVar 3) (wTup (wCons (wC (.int 2)) (wCons (wC (.int 3)) (wCons (wC (.int 5)) (wCons (wC (.int 7)) (wCons (wC (.int 97)) wNil)))))))) (wTest (wOp (fEq true) (wCall C_last_digit [] (wCons (wOp fMul (wVar 4) (wVar 7)) (wCons (wVar 3) wNil))) (wOp fMod (wOp fMul (wVar 5) (wVar 7)) (wVar 3))))) (wRet (wC (.bl false))) wNext)))))))
    (wRet (wC (.bl true))))
def w_l_draw : WS :=
  (wSeq (wAsg 4 (wOp fMod (wCB fInt (wCons (wOp fMul (wOp fAdd (wOp fAdd (wOp fMod (wCB fInt (wCons (wVar 3) wNil)) (wC (.int 2147483629))) (wOp fMul (wOp fMul (wC (.int 60413)) (wVar 2)) (wVar 2))) (wC (.int 43))) (wC (.int 40692))) wNil)) (wC (.int 2147483647))))
    (wSeq (wAsg 4 (wOp fMod (wCB fInt (wCons (wOp fAdd (wOp fAdd (wOp fMul (wVar 4) (wVar 4)) (wOp fMul (wC (.int 69621)) (wVar 2))) (wC (.int 101))) wNil)) (wC (.int 2147483587))))
    (wRet (wOp fMod (wCB fInt (wCons (wOp fFdiv (wOp fMod (wCB fInt (wCons (wOp fMul (wVar 4) (wC (.int 39373))) wNil)) (wC (.int 2147483563))) (wC (.int 64))) wNil)) (wVar 1)))))
end Pg
namespace Pg
open PySem PySem.Spec PyProof.Rows L2 L3
theorem pf_l_draw : ∀ (m turn cell : Int) (n : Nat) (Qd : D → Nat → Prop), 1 ≤ m → m.natAbs.log2 < 9000 → 0 ≤ turn → turn ≤ 2 ^ 40 → (∀ r : Int, 0 ≤ r → r < m → Qd (.int r) n) →
    w_l_draw ⟨fun δ => Qd .non δ.n, Qd, fun _ => False, fun _ => False⟩ ⟨some (.sh .deck) :: some (.sh (.int m)) :: some (.sh (.int turn)) :: some (.sh (.int cell)) :: List.replicate (N_l_draw.length - 4) none, n⟩ :=
  mixA (.n (by decide)) (.n (by decide))
theorem len_last_digit : ∀ ds n Q, C_last_digit ds n Q → ds.length = 2 := fun ds n Q ⟨_, _, _, e, _⟩ => by rw [e]; rfl
theorem pf_last_digit : ∀ ds n Q, C_last_digit ds n Q → w_last_digit ⟨fun δ => Q .non δ.n, Q, fun _ => False, fun _ => False⟩ ⟨start3 N_last_digit ds, n⟩ := by
  rintro ds n Q ⟨b, m, e, rfl, b2, bs, hm, q⟩
  simp [w_last_digit]
  refine ⟨fun t δ => δ = ⟨[some (.sh (.int (m * b ^ e))), some (.sh (.int b)), some (.sh (.int (m * b ^ t)))], n⟩, ⟨e, rfl⟩, ?_⟩
  rintro t δ rfl
  have cd : CDivA (m * b ^ t) b := bs.cdiv (by omega) (by decide)
  have b0 : ¬ b = 0 := by omega
  simp [fmod_pos (show 0 ≤ b by omega), fdiv_pos (show 0 ≤ b by omega), cd, b0]
  cases t with
  | zero => simp [hm, q]
  | succ t =>
    have e1 : m * b ^ (t + 1) = m * b ^ t * b := by rw [Int.pow_succ, Int.mul_assoc]
    rw [e1]
    refine ⟨fun _ => ⟨t, by omega, by rw [Int.mul_ediv_cancel _ b0]⟩, fun z => (z (Int.mul_emod_left _ _)).elim⟩
theorem len_l_pick : ∀ ds n Q, C_l_pick ds n Q → ds.length = 2 := fun ds n Q ⟨_, e, _⟩ => by rcases e with e | e <;> rw [e] <;> rfl
theorem pf_l_pick : ∀ ds n Q, C_l_pick ds n Q → w_l_pick ⟨fun δ => Q .non δ.n, Q, fun _ => False, fun _ => False⟩ ⟨start3 N_l_pick ds, n⟩ := by
  rintro ds n Q ⟨xs, e, h0, hl, hn, q⟩
  have h1 : 0 < xs.length := List.length_pos_iff.mpr h0
  have draw : ∀ Q : D → Nat → Prop, (∀ r : Int, 0 ≤ r → r < xs.length → Q (.int r) (n + 1)) → C_l_draw [.deck, .int xs.length] n Q := fun Q q => draw_le (by omega) ((sz_len (k := 10) (by omega)).mono (by decide)) hn q
  rcases e with rfl | rfl
  · simp [w_l_pick]
    refine draw _ fun r r0 r1 => ?_
    obtain ⟨x, hx, e⟩ := atI_some r0 r1
    simp [e, q x hx]
  · simp [w_l_pick]
    refine draw _ fun r r0 r1 => ?_
    obtain ⟨x, hx, e⟩ := atI_some r0 r1
    simp [e, q x hx]
theorem len_l_digits : ∀ ds n Q, C_l_digits ds n Q → ds.length = 2 := fun ds n Q ⟨_, _, _, e, _⟩ => by rw [e]; rfl
theorem pf_l_digits : ∀ ds n Q, C_l_digits ds n Q → w_l_digits ⟨fun δ => Q .non δ.n, Q, fun _ => False, fun _ => False⟩ ⟨start3 N_l_digits ds, n⟩ := by
  rintro ds n Q ⟨k, b, L, rfl, b2, bs, hd, hl, q⟩
  simp [w_l_digits]
  refine ⟨fun t δ => ∃ (k' : Int) (A B : List Int), δ = ⟨[some (.sh (.int k')), some (.sh (.int b)), some (.ow (.lst (A.map D.int)))], n⟩ ∧ A ++ B = L ∧ Dig b k' B ∧ t = B.length, ⟨_, k, [], L, rfl, rfl, hd, rfl⟩, ?_⟩
  rintro t δ ⟨k', A, B, rfl, e, hd, rfl⟩
  have cd : ∀ i, CDivA i b := fun i => bs.cdiv (by omega) (by decide)
  have b0 : ¬ b = 0 := by omega
  simp [fmod_pos (show 0 ≤ b by omega), fdiv_pos (show 0 ≤ b by omega), cd, b0]
  cases hd with
  | nil =>
    rw [List.append_nil] at e
    subst e
    simp [q]
  | @cons k' B h1 h2 =>
    have la : A.length < 16777216 := by rw [← e, List.length_append, List.length_cons] at hl; omega
    refine ⟨fun _ => ⟨la, B.length, by simp, k' / b, A ++ [k' % b], ⟨rfl, by simp⟩, B, by simp [e], h2, rfl⟩, fun z => by omega⟩
theorem len_l_integer : ∀ ds n Q, C_l_integer ds n Q → ds.length = 2 := fun ds n Q ⟨_, e, _⟩ => by rw [e]; rfl
theorem pf_l_integer : ∀ ds n Q, C_l_integer ds n Q → w_l_integer ⟨fun δ => Q .non δ.n, Q, fun _ => False, fun _ => False⟩ ⟨start3 N_l_integer ds, n⟩ := by
  rintro ds n Q ⟨b, rfl, b2, bs, hn, q⟩
  simp [w_l_integer]
  refine ⟨⟨by decide, by decide, by decide⟩, ⟨by decide, by decide, by decide⟩, ?_⟩
  refine pick_ints (fun i => 10 ≤ i ∧ i ≤ 10 ^ 40) (by simp) (by simp) (by omega) (by simp) fun far hf => ?_
  have hfs : Sz 140 far := .pos (by omega) (by omega)
  refine draw_le (by decide) (.n (by decide)) (by omega) fun kind k0 k1 => ?_
  refine draw_le (by omega) (hfs.mono (by decide)) (by omega) fun fd f0 f1 => ?_
  simp
  refine ⟨fun _ => q _ _ (by omega) (.pos (by omega) (by omega)) (by omega), fun kn => ?_⟩
  refine draw_le (by decide) (.n (by decide)) (by omega) fun go g0 g1 => ?_
  simp
  refine ⟨by omega, by omega, wLoop_inv (fun i δ => ∃ (f : Int) (o : Option SV), δ = ⟨[some (.sh .deck), some (.sh (.int b)), some (.sh (.int far)), some (.sh (.int kind)), some (.sh (.int f)), o], n + 1 + 1 + 1 + 1⟩ ∧ 1 ≤ f ∧ Sz (150 + 30 * i) f) ⟨1 + fd, none, rfl, by omega, .pos (by omega) (by omega)⟩ ?_ ?_⟩
  · rintro i d δ hd ⟨f, o, rfl, f1, fs⟩ N hN
    obtain ⟨hi, rfl⟩ := rng_get hd
    simp
    refine ⟨fs.cmul bs (by omega), hN _ ⟨_, _, rfl, ?_, (fs.mul bs).mono (by omega)⟩⟩
    have := Int.mul_le_mul f1 (show 1 ≤ b by omega) (by decide) (by omega)
    omega
  · rintro δ ⟨f, o, rfl, f1, fs⟩
    rw [rng_len] at fs
    have fs' : Sz 600 f := fs.mono (by omega)
    have fin : ∀ j : Int, -1 ≤ j → j ≤ 1 → Q (.int (if f + j > 1 then f + j else 1)) (n + 1 + 1 + 1 + 1) := fun j j0 j1 => by
      refine q _ _ (by split <;> omega) ?_ (by omega)
      have sj : Sz 1 j := .of (by omega) (by omega)
      split
      · exact (fs'.add sj).mono (by decide)
      · exact .n (by decide)
    have hk : kind = 1 ∨ kind = 2 ∨ kind = 3 := by omega
    rcases hk with rfl | rfl | rfl
    · simp [L2.atI, L2.ixN]; simpa using fin 0 (by omega) (by omega)
    · simp [L2.atI, L2.ixN]; simpa using fin 1 (by omega) (by omega)
    · simp [L2.atI, L2.ixN]; simpa using fin (-1) (by omega) (by omega)
/-! the plain law -/
theorem dig_ex {b : Int} (b2 : 2 ≤ b) : ∀ (s : Nat) (k : Int), 0 ≤ k → k < 2 ^ s → ∃ L : List Int, Dig b k L ∧ L.length ≤ s
  | 0, k, h0, h1 => ⟨[], by
      have : k = 0 := by omega
      subst this; exact ⟨.nil, Nat.le_refl _⟩⟩
  | s + 1, k, h0, h1 => by
    by_cases z : k = 0
    · subst z; exact ⟨[], .nil, Nat.zero_le _⟩
    · have h2 : k / b < 2 ^ s := by
        refine Int.ediv_lt_of_lt_mul (by omega) ?_
        have hp : (0 : Int) < 2 ^ s := Int.pow_pos (by decide)
        have := Int.mul_le_mul_of_nonneg_left b2 (Int.le_of_lt hp)
        rw [Int.pow_succ] at h1
        omega
      obtain ⟨L, h3, h4⟩ := dig_ex b2 s (k / b) (Int.ediv_nonneg h0 (by omega)) h2
      exact ⟨k % b :: L, .cons (by omega) h3, Nat.succ_le_succ h4⟩
theorem split_ex {b : Int} (b2 : 2 ≤ b) : ∀ (s : Nat) (k : Int), 1 ≤ k → k < 2 ^ s → ∃ (m : Int) (e : Nat), k = m * b ^ e ∧ m % b ≠ 0 ∧ 1 ≤ m
  | 0, k, h0, h1 => by omega
  | s + 1, k, h0, h1 => by
    by_cases z : k % b = 0
    · have hk : k = k / b * b := (Int.ediv_mul_cancel (Int.dvd_of_emod_eq_zero z)).symm
      have h2 : k / b < 2 ^ s := by
        refine Int.ediv_lt_of_lt_mul (by omega) ?_
        have hp : (0 : Int) < 2 ^ s := Int.pow_pos (by decide)
        have := Int.mul_le_mul_of_nonneg_left b2 (Int.le_of_lt hp)
        rw [Int.pow_succ] at h1
        omega
      have h3 : 1 ≤ k / b := by
        have := Int.ediv_nonneg (show 0 ≤ k by omega) (show 0 ≤ b by omega)
        rcases Int.lt_or_eq_of_le this with q | q
        · omega
        · rw [← q] at hk; omega
      obtain ⟨m, e, e1, e2, e3⟩ := split_ex b2 s (k / b) h3 h2
      refine ⟨m, e + 1, ?_, e2, e3⟩
      rw [Int.pow_succ, ← Int.mul_assoc, ← e1]
      exact hk
    · exact ⟨k, 0, by simp, z, h0⟩
theorem dig_head {b m : Int} (b2 : 2 ≤ b) (hm : m % b ≠ 0) : ∀ (e : Nat) (L : List Int), Dig b (m * b ^ e) L → ∃ L', L.filter (fun x => decide (x ≠ 0)) = m % b :: L'
  | 0, L, h => by
    rw [Int.pow_zero, Int.mul_one] at h
    cases h with
    | nil => simp at hm
    | cons h1 h2 => exact ⟨_, by rw [List.filter_cons_of_pos (by simpa using hm)]⟩
  | e + 1, L, h => by
    have e1 : m * b ^ (e + 1) = m * b ^ e * b := by rw [Int.pow_succ, Int.mul_assoc]
    rw [e1] at h
    generalize hk : m * b ^ e * b = k at h
    cases h with
    | nil =>
      have hb : b ^ e ≠ 0 := Int.pow_ne_zero (by omega)
      have : m ≠ 0 := fun z => hm (by rw [z]; simp)
      have := Int.mul_ne_zero (Int.mul_ne_zero this hb) (show b ≠ 0 by omega)
      omega
    | @cons _ L h1 h2 =>
      have z : k % b = 0 := by rw [← hk]; exact Int.mul_emod_left _ _
      have y : k / b = m * b ^ e := by rw [← hk]; exact Int.mul_ediv_cancel _ (by omega)
      rw [y] at h2
      rw [z]
      obtain ⟨L', hL⟩ := dig_head b2 hm e L h2
      exact ⟨L', by rw [List.filter_cons_of_neg (by simp)]; exact hL⟩
theorem prime_no {b x y : Int} (hb : b = 2 ∨ b = 3 ∨ b = 5 ∨ b = 7 ∨ b = 97) (hx : x % b ≠ 0) (hy : y % b ≠ 0) : x * y % b ≠ 0 := by
  have key : ∀ p : Nat, (∀ i j : Fin p, i.val ≠ 0 → j.val ≠ 0 → i.val * j.val % p ≠ 0) → 0 < p → x % (p : Int) ≠ 0 → y % (p : Int) ≠ 0 → x * y % (p : Int) ≠ 0 := fun p h p0 hx hy => by
    have x0 := Int.emod_nonneg x (show (p : Int) ≠ 0 by omega)
    have x1 := Int.emod_lt_of_pos x (show (0 : Int) < p by omega)
    have y0 := Int.emod_nonneg y (show (p : Int) ≠ 0 by omega)
    have y1 := Int.emod_lt_of_pos y (show (0 : Int) < p by omega)
    have := h ⟨(x % p).toNat, by omega⟩ ⟨(y % p).toNat, by omega⟩ (by show (x % p).toNat ≠ 0; omega) (by show (y % p).toNat ≠ 0; omega)
    intro z
    apply this
    rw [Int.mul_emod] at z
    have e1 : ((x % p).toNat : Int) = x % p := by omega
    have e2 : ((y % p).toNat : Int) = y % p := by omega
    show (x % p).toNat * (y % p).toNat % p = 0
    have : (((x % p).toNat * (y % p).toNat % p : Nat) : Int) = 0 := by
      rw [Int.natCast_emod, Int.natCast_mul, e1, e2]; exact z
    omega
  rcases hb with rfl | rfl | rfl | rfl | rfl
  · exact key 2 (by decide) (by decide) hx hy
  · exact key 3 (by decide) (by decide) hx hy
  · exact key 5 (by decide) (by decide) hx hy
  · exact key 7 (by decide) (by decide) hx hy
  · exact key 97 (by decide +kernel) (by decide) hx hy
theorem pf_law : w_law ⟨fun _ => False, fun d _ => d = .bl true, fun _ => False, fun _ => False⟩ ⟨none :: some (.sh .deck) :: List.replicate (N_law.length - 2) none, 0⟩ := by
  simp [w_law]
  refine wLoop_inv (fun i δ => ∃ (o2 o3 o4 o5 o7 : Option SV) (n : Nat), δ = ⟨[none, some (.sh .deck), o2, o3, o4, o5, none, o7], n⟩ ∧ n ≤ 10 * i) ⟨_, _, _, _, _, 0, rfl, Nat.le_refl _⟩ ?_ ?_
  rotate_left
  · rintro δ ⟨o2, o3, o4, o5, o7, n, rfl, hn⟩
    simp
  rintro i d δ hd ⟨o2, o3, o4, o5, o7, n, rfl, hn⟩ N hN
  obtain ⟨hi, rfl⟩ := rng_get hd
  have hM : n + 10 ≤ mostDraws := by unfold mostDraws; omega
  simp
  refine ⟨⟨by decide, by decide, by decide⟩, draw_le (by decide) (.n (by decide)) (by omega) fun r r0 r1 => ?_⟩
  simp
  refine pick_ints (fun i => 2 ≤ i ∧ i ≤ 10 ^ 6) (by simp) (by simp) (by omega) (by simp; omega) fun b hb => ?_
  have bs : Sz 30 b := .pos (by omega) (by omega)
  have b0 : ¬ b = 0 := by omega
  refine ⟨b, rfl, hb.1, bs, by omega, fun k n1 k1 ks hn1 => ?_⟩
  obtain ⟨m, e, ek, hm, m1⟩ := split_ex hb.1 1000 k k1 ks.lt
  obtain ⟨L, hL, lL⟩ := dig_ex hb.1 1000 k (by omega) ks.lt
  refine ⟨k, b, L, rfl, hb.1, bs, hL, by omega, ?_⟩
  obtain ⟨L', eL⟩ := dig_head hb.1 hm e L (ek ▸ hL)
  have r0 : 0 ≤ m % b := Int.emod_nonneg _ b0
  have r1 : m % b < b := Int.emod_lt_of_pos _ (by omega)
  have rs : Sz 30 (m % b) := .pos r0 (by omega)
  simp
  refine wLc_inv (fun j acc δ => δ = ⟨[none, some (.sh .deck), some (.sh (.int i)), some (.sh (.int b)), some (.sh (.int k)), o5, none, o7], n1⟩ ∧ acc = ((L.take j).filter fun x => decide (x ≠ 0)).map D.int) ⟨rfl, rfl⟩ ?_ ?_
  · rintro j x acc δ hx ⟨rfl, rfl⟩ N hN
    rw [List.getElem?_map] at hx
    obtain ⟨y, hy, rfl⟩ := Option.map_eq_some_iff.mp hx
    have et : L.take (j + 1) = L.take j ++ [y] := by rw [List.take_add_one, hy]; rfl
    have el : ((L.take j).filter fun x => decide (x ≠ 0)).length ≤ 1000 := Nat.le_trans (List.length_filter_le _ _) (Nat.le_trans (List.length_take_le' _ _) lL)
    simp
    refine ⟨fun z => ⟨by simp at el; omega, hN _ _ ⟨rfl, ?_⟩⟩, fun z => hN _ _ ⟨rfl, ?_⟩⟩
    · rw [et, List.filter_append, List.filter_cons_of_pos (by simpa using z)]; simp
    · rw [et, List.filter_append, List.filter_cons_of_neg (by simpa using z)]; simp
  · rintro acc δ ⟨rfl, rfl⟩
    rw [List.length_map, List.take_length, eL]
    simp [L2.atI, L2.ixN]
    subst ek
    refine ⟨b, m, e, rfl, hb.1, bs, hm, ?_⟩
    refine ⟨b, m, e, rfl, hb.1, bs, hm, ?_⟩
    have eb : m * b ^ e * b = m * b ^ (e + 1) := by rw [Int.pow_succ, Int.mul_assoc]
    refine ⟨ks.cmul bs (by decide), ⟨b, m, e + 1, by rw [eb], hb.1, bs, hm, ?_⟩⟩
    have rs' : Sz 1900 (m % b) := rs.mono (by decide)
    have sh3 := Sh.lst (.cons (Sh.int rs') (.cons (Sh.int rs') (.cons (Sh.int rs') .nil (Nat.le_refl 0)) (Nat.le_refl 0)) (Nat.le_refl 0))
    refine sh3.repr (by decide) (by decide) (sh3.repr (by decide) (by decide) ?_)
    simp
    refine draw_le (by omega) ((Sz.pos (k := 30) (by omega) (by omega)).mono (by decide)) (by omega) fun g g0 g1 => ?_
    have gs : Sz 31 (1 + g) := .pos (by omega) (by omega)
    simp
    refine ⟨fun hp => ⟨ks.cmul gs (by decide), ?_⟩, fun _ _ _ _ _ => hN _ ⟨_, _, _, _, _, n1 + 1, rfl, by omega⟩⟩
    have hg : (1 + g) % b ≠ 0 := by rw [Int.emod_eq_of_lt (by omega) (by omega)]; omega
    have hmg : m * (1 + g) % b ≠ 0 := prime_no (by simpa using hp) hm hg
    refine ⟨b, m * (1 + g), e, by rw [Int.mul_right_comm], hb.1, bs, hmg, ?_⟩
    simp
    refine ⟨rs.cmul gs (by decide), b0, ?_, fun _ => hN _ ⟨_, _, _, _, _, n1 + 1, rfl, by omega⟩⟩
    rw [fmod_pos (by omega), Int.mul_emod (m % b), Int.emod_emod_of_dvd _ (Int.dvd_refl b), ← Int.mul_emod]
end Pg
namespace Pg
open PySem PySem.Spec PyProof.Rows L2 L3
def top (i : Nat) : Stmt := PySem.Challenge.pw_whateverboxes_k24_last_digits.main.body.getD i (.Pass ⟨0, 0, 0, 0⟩)
abbrev s_last_digit : Stmt := top 1
theorem sc_last_digit : FnScope N_last_digit ["number", "base"] (defScope s_last_digit) := ⟨rfl, rfl, rfl, by decide +kernel, rfl, by decide +kernel, by decide +kernel⟩
abbrev s_l_deck : Stmt := top 3
theorem sc_l_deck : FnScope N_l_deck ["_law_script"] (defScope s_l_deck) := ⟨rfl, rfl, rfl, by decide +kernel, rfl, by decide +kernel, by decide +kernel⟩
abbrev s_l_draw : Stmt := top 4
theorem sc_l_draw : FnScope N_l_draw ["_law_deck_here", "_law_many"] (defScope s_l_draw) := ⟨rfl, rfl, rfl, by decide +kernel, rfl, by decide +kernel, by decide +kernel⟩
abbrev s_l_pick : Stmt := top 5
theorem sc_l_pick : FnScope N_l_pick ["_law_deck_here", "_law_some"] (defScope s_l_pick) := ⟨rfl, rfl, rfl, by decide +kernel, rfl, by decide +kernel, by decide +kernel⟩
abbrev s_l_digits : Stmt := top 6
theorem sc_l_digits : FnScope N_l_digits ["_law_k", "_law_by"] (defScope s_l_digits) := ⟨rfl, rfl, rfl, by decide +kernel, rfl, by decide +kernel, by decide +kernel⟩
abbrev s_l_integer : Stmt := top 7
theorem sc_l_integer : FnScope N_l_integer ["_law_deck_here", "_law_by"] (defScope s_l_integer) := ⟨rfl, rfl, rfl, by decide +kernel, rfl, by decide +kernel, by decide +kernel⟩
abbrev s_law : Stmt := top 8
theorem sc_law : FnScope N_law ["_law_script"] (defScope s_law) := ⟨rfl, rfl, rfl, by decide +kernel, rfl, by decide +kernel, by decide +kernel⟩
structure Txt (K : PySem.W.Frag) (mg : Str → Option Value) where
  f_last_digit : Addr
  fd_last_digit : FuncData
  F_last_digit : Fun K "last_digit" "last_digit" s_last_digit f_last_digit fd_last_digit
  m_last_digit : mg "last_digit" = some (.ref f_last_digit)
  f_l_deck : Addr
  fd_l_deck : FuncData
  F_l_deck : Fun K "_law_deck" "_law_deck" s_l_deck f_l_deck fd_l_deck
  m_l_deck : mg "_law_deck" = some (.ref f_l_deck)
  f_l_draw : Addr
  fd_l_draw : FuncData
  F_l_draw : Fun K "_law_draw" "_law_draw" s_l_draw f_l_draw fd_l_draw
  m_l_draw : mg "_law_draw" = some (.ref f_l_draw)
  f_l_pick : Addr
  fd_l_pick : FuncData
  F_l_pick : Fun K "_law_pick" "_law_pick" s_l_pick f_l_pick fd_l_pick
  m_l_pick : mg "_law_pick" = some (.ref f_l_pick)
  f_l_digits : Addr
  fd_l_digits : FuncData
  F_l_digits : Fun K "_law_digits" "_law_digits" s_l_digits f_l_digits fd_l_digits
  m_l_digits : mg "_law_digits" = some (.ref f_l_digits)
  f_l_integer : Addr
  fd_l_integer : FuncData
  F_l_integer : Fun K "_law_integer" "_law_integer" s_l_integer f_l_integer fd_l_integer
  m_l_integer : mg "_law_integer" = some (.ref f_l_integer)
  f_law : Addr
  fd_law : FuncData
  F_law : Fun K "law" "law" s_law f_law fd_law
  m_law : mg "law" = some (.ref f_law)
  z_int : mg "int" = none
  z_len : mg "len" = none
  z_list : mg "list" = none
  z_max : mg "max" = none
  z_range : mg "range" = none
  z_repr : mg "repr" = none
abbrev cls : Nat → Addr := fun _ => 0
abbrev fld : Nat → List Str := fun _ => []
section
variable {P : Program} {w : World} {K : PySem.W.Frag} {mg : Str → Option Value} {base : Heap}
theorem bd_last_digit (T : Txt K mg) : Binds K T.fd_last_digit ["number", "base"] [] := T.F_last_digit.binds (ps := ["number", "base"]) fun _ _ _ _ _ _ us hl => match us, hl with | [_, _], _ => rfl
theorem bd_l_deck (T : Txt K mg) : Binds K T.fd_l_deck ["_law_script"] [] := T.F_l_deck.binds (ps := ["_law_script"]) fun _ _ _ _ _ _ us hl => match us, hl with | [_], _ => rfl
theorem bd_l_draw (T : Txt K mg) : Binds K T.fd_l_draw ["_law_deck_here", "_law_many"] [] := T.F_l_draw.binds (ps := ["_law_deck_here", "_law_many"]) fun _ _ _ _ _ _ us hl => match us, hl with | [_, _], _ => rfl
theorem bd_l_pick (T : Txt K mg) : Binds K T.fd_l_pick ["_law_deck_here", "_law_some"] [] := T.F_l_pick.binds (ps := ["_law_deck_here", "_law_some"]) fun _ _ _ _ _ _ us hl => match us, hl with | [_, _], _ => rfl
theorem bd_l_digits (T : Txt K mg) : Binds K T.fd_l_digits ["_law_k", "_law_by"] [] := T.F_l_digits.binds (ps := ["_law_k", "_law_by"]) fun _ _ _ _ _ _ us hl => match us, hl with | [_, _], _ => rfl
theorem bd_l_integer (T : Txt K mg) : Binds K T.fd_l_integer ["_law_deck_here", "_law_by"] [] := T.F_l_integer.binds (ps := ["_law_deck_here", "_law_by"]) fun _ _ _ _ _ _ us hl => match us, hl with | [_, _], _ => rfl
theorem bd_law (T : Txt K mg) : Binds K T.fd_law ["_law_script"] [] := T.F_law.binds (ps := ["_law_script"]) fun _ _ _ _ _ _ us hl => match us, hl with | [_], _ => rfl
theorem kb_last_digit_0 (T : Txt K mg) : KB K T.fd_last_digit ["number", "base"] 0 ["base", "number"] [1, 0] [] := by
  obtain ⟨oc, od, kV, doc, pm, an, cdv, ct, osl, e, _, _⟩ := T.F_last_digit.ex
  rw [e]
  exact fun s us ws X l1 l2 => match us, ws, l1, l2 with | [], [_, _], _, _ => .of_eq rfl
theorem ok_l_deck (T : Txt K mg) : FnG P w K mg base CX0 1 T.f_l_deck T.fd_l_deck ["_law_script"] (spDeckA K) := by
  refine FnG.of (FunB.of T.F_l_deck) sc_l_deck (fun vs H Q E ⟨a, ns, e, _⟩ => by rw [e]; rfl) fun cdv A outer s H vs Q E hr hg h => ?_
  have D : PSs (cxOf CX0 P w K mg base N_l_deck "_law_deck" (defScope s_l_deck) T.f_l_deck cdv A outer s H E).nox (defBody s_l_deck) (tDeckA K 952417 101) :=
    pss_cons (ps_par (i := 1) (j := 2) rfl sc_l_deck.nd rfl rfl (by decide) rfl rfl (pa_cons (pe_callTy call_list_of rfl T.z_list (by decide +kernel) (pa_cons (pe_slice sl_list (pv 0) po_none (po_some pe_int)) pa_nil)) (pa_cons pe_int pa_nil)) (by rfl))
    (pss_cons (ps_for PassesOwn.never rfl (pi_list (pv 1)) (pg_name (i := 3) sc_l_deck.nd rfl (.inl rfl)) (pss_one (ps_set (i := 2) sc_l_deck.nd rfl (.inl rfl) (pe_op op_modN (pe_callTy call_int1 rfl T.z_int (by decide +kernel) (pa_cons (pe_op op_add (pe_op op_add (pe_op op_mul (pv 2) pe_int) (pe_op op_modN (pe_callTy call_int1 rfl T.z_int (by decide +kernel) (pa_cons (pv 3) pa_nil)) pe_int)) pe_int) pa_nil)) pe_int))))
    (pss_one (ps_ret (pe_disp (pps_cons pe_str (pe_revL (pv 1)) (pps_cons pe_str (pv 2) (pps_cons pe_str pe_int pps_nil))) (by rfl) (by rfl) (fun z => by cases z) (by decide)))))
  exact ⟨_, D.nox, rd_deckA rfl (by decide) h⟩
theorem ok_l_draw (T : Txt K mg) : FnG P w K mg base CX0 1 T.f_l_draw T.fd_l_draw ["_law_deck_here", "_law_many"] (lift K (GA cls fld) CdrawA) := by
  refine FnG.of (FunB.of T.F_l_draw) sc_l_draw (fun vs H Q E ⟨a, c, ads, ds, n, Qd, _, _, _, r, ⟨m, e, _⟩, _⟩ => by rw [r.length, e]; rfl) fun cdv A outer s H vs Q E hr hg h => ?_
  obtain ⟨t, D⟩ : ∃ t, ∀ a c, DSs (cxOf CX0 P w K mg base N_l_draw "_law_draw" (defScope s_l_draw) T.f_l_draw cdv A outer s H E).nox (GA cls fld a c) ((defBody s_l_draw).drop 3) t w_l_draw :=
    ⟨_, fun a c => (dss_cons (ds_set 4 sc_l_draw.nd (de_mod (de_callTy call_int1 calls_int rfl T.z_int (by decide +kernel) (da_cons (de_mul (de_addK K (de_addK K (de_mod (de_callTy call_int1 calls_int rfl T.z_int (by decide +kernel) (da_cons (de_var 3) da_nil)) de_int) (de_mul (de_mul de_int (de_var 2)) (de_var 2))) de_int) de_int) da_nil)) de_int))
    (dss_cons (ds_set 4 sc_l_draw.nd (de_mod (de_callTy call_int1 calls_int rfl T.z_int (by decide +kernel) (da_cons (de_addK K (de_addK K (de_mul (de_var 4) (de_var 4)) (de_mul de_int (de_var 2))) de_int) da_nil)) de_int))
    (dss_one (ds_ret (de_mod (de_callTy call_int1 calls_int rfl T.z_int (by decide +kernel) (da_cons (de_fdiv (de_mod (de_callTy call_int1 calls_int rfl T.z_int (by decide +kernel) (da_cons (de_mul (de_var 4) de_int) da_nil)) de_int) de_int) da_nil)) (de_var 1))))))⟩
  have D1 : PSs (cxOf CX0 P w K mg base N_l_draw "_law_draw" (defScope s_l_draw) T.f_l_draw cdv A outer s H E).nox (defBody s_l_draw) (tDrawA K t) :=
    pss_cons (ps_dput (hu_of hr) (pv 0) pe_str (pe_op op_add (pe_dget (hu_of hr) (pv 0) pe_str (fun _ _ => rfl)) pe_int) rfl)
    (pss_cons (ps_par (i := 2) (j := 3) rfl sc_l_draw.nd rfl rfl (by decide) rfl rfl (pa_cons (pe_dget (hu_of hr) (pv 0) pe_str (fun _ _ => rfl)) (pa_cons (pe_dget (hu_of hr) (pv 0) pe_str (fun _ _ => rfl)) pa_nil)) (by rfl))
    (pss_cons (ps_if (pt_cmpR (op_neD hr.units) (pe_dget (hu_of hr) (pv 0) pe_str (fun _ _ => rfl)) (pe_lst pa_nil) (nomark _))
      (pss_cons (ps_set (i := 3) sc_l_draw.nd rfl (.inl rfl) (pe_bm0 PySem.F.plainAttrs_list PySem.F.slot_list_pop PySem.F.type_list_pop mt_pop (pe_dget (hu_of hr) (pv 0) pe_str (fun _ _ => rfl))))
      (pss_cons (ps_if (pt_cmpR op_ge (pv 3) (pe_op op_pow pe_int pe_int) (nomark _))
        (pss_cons (ps_expr (pe_bm PySem.F.plainAttrs_list PySem.F.slot_list_append PySem.F.type_list_append mt_append (pe_dget (hu_of hr) (pv 0) pe_str (fun _ _ => rfl)) (pa_cons (pe_op op_fdivA (pv 3) (pv 1)) pa_nil)))
        (pss_one (ps_ret (pe_op op_modN (pe_callTy call_int1 rfl T.z_int (by decide +kernel) (pa_cons (pv 3) pa_nil)) (pv 1))))) pss_nil)
      (pss_one (ps_set (i := 3) sc_l_draw.nd rfl (.inl rfl) (pe_op op_add (pv 3) (pe_dget (hu_of hr) (pv 0) pe_str (fun _ _ => rfl)))))))
      pss_nil) (D 0 0).ps))
  exact ⟨_, D1.nox, rd_drawA (by decide) (fun p c => (D p c).sim) pf_l_draw h⟩
theorem ok_last_digit (T : Txt K mg) : FnG P w K mg base CX0 1 T.f_last_digit T.fd_last_digit ["number", "base"] (lift K (GA cls fld) C_last_digit) :=
  FnG.data (FunB.of T.F_last_digit) sc_last_digit len_last_digit (fun cdv A outer s H E a c hr hg => ⟨_, (dss_cons (ds_set 2 sc_last_digit.nd (de_var 0))
    (dss_cons (ds_while PassesOwn.never (dt_cmp (op_eqK K hr.units) ops_eq (de_mod (de_var 2) (de_var 1)) de_int) (dss_one (ds_set 2 sc_last_digit.nd (de_fdiv (de_var 2) (de_var 1)))))
    (dss_one (ds_ret (de_mod (de_var 2) (de_var 1))))))⟩) pf_last_digit
theorem ok_l_pick (T : Txt K mg) : FnG P w K mg base CX0 2 T.f_l_pick T.fd_l_pick ["_law_deck_here", "_law_some"] (lift K (GA cls fld) C_l_pick) :=
  FnG.data (FunB.of T.F_l_pick) sc_l_pick len_l_pick (fun cdv A outer s H E a c hr hg => ⟨_, (dss_one (ds_ret (de_ixK K (de_var 1) (de_callX K (ok_l_draw T) (hr.mono (by decide)) hg T.m_l_draw T.F_l_draw.kp (bd_l_draw T) .nil dfl_nil (da_cons (de_var 0) (da_cons (de_callB (call_lenK K) calls_len rfl T.z_len (by decide +kernel) (da_cons (de_var 1) da_nil)) da_nil))))))⟩) pf_l_pick
theorem ok_l_digits (T : Txt K mg) : FnG P w K mg base CX0 1 T.f_l_digits T.fd_l_digits ["_law_k", "_law_by"] (lift K (GA cls fld) C_l_digits) :=
  FnG.data (FunB.of T.F_l_digits) sc_l_digits len_l_digits (fun cdv A outer s H E a c hr hg => ⟨_, (dss_cons (ds_setO 2 sc_l_digits.nd (de_lst da_nil))
    (dss_cons (ds_while PassesOwn.never (dt_cmp op_gt ops_IB (de_var 0) de_int) (dss_cons (ds_append 2 (de_mod (de_callTy call_int1 calls_int rfl T.z_int (by decide +kernel) (da_cons (de_var 0) da_nil)) (de_var 1)) (pv 2))
    (dss_one (ds_set 0 sc_l_digits.nd (de_fdiv (de_var 0) (de_var 1))))))
    (dss_one (ds_ret (de_var 2)))))⟩) pf_l_digits
theorem ok_l_integer (T : Txt K mg) : FnG P w K mg base CX0 3 T.f_l_integer T.fd_l_integer ["_law_deck_here", "_law_by"] (lift K (GA cls fld) C_l_integer) :=
  FnG.data (FunB.of T.F_l_integer) sc_l_integer len_l_integer (fun cdv A outer s H E a c hr hg => ⟨_, (dss_cons (ds_par2 2 false 3 false rfl sc_l_integer.nd (de_callX K (ok_l_pick T) (hr.mono (by decide)) hg T.m_l_pick T.F_l_pick.kp (bd_l_pick T) .nil dfl_nil (da_cons (de_var 0) (da_cons (de_lst (da_cons de_int (da_cons de_int (da_cons (de_pow de_int de_int) (da_cons (de_pow de_int de_int) da_nil))))) da_nil))) (de_callX K (ok_l_draw T) (hr.mono (by decide)) hg T.m_l_draw T.F_l_draw.kp (bd_l_draw T) .nil dfl_nil (da_cons (de_var 0) (da_cons de_int da_nil))))
    (dss_cons (ds_set 4 sc_l_integer.nd (de_addK K de_int (de_callX K (ok_l_draw T) (hr.mono (by decide)) hg T.m_l_draw T.F_l_draw.kp (bd_l_draw T) .nil dfl_nil (da_cons (de_var 0) (da_cons (de_var 2) da_nil)))))
    (dss_cons (ds_if (dt_cmp (op_eqK K hr.units) ops_eq (de_var 3) de_int) (dss_one (ds_ret (de_var 4))) dss_nil)
    (dss_cons (ds_for PassesOwn.never rfl (di_range1 rfl T.z_range (da_cons (de_callX K (ok_l_draw T) (hr.mono (by decide)) hg T.m_l_draw T.F_l_draw.kp (bd_l_draw T) .nil dfl_nil (da_cons (de_var 0) (da_cons de_int da_nil))) da_nil)) (dg_name sc_l_integer.nd) (dss_one (ds_set 4 sc_l_integer.nd (de_mul (de_var 4) (de_var 1)))))
    (dss_one (ds_ret (de_callB (call_max2 rfl) calls_max2 rfl T.z_max (by decide +kernel) (da_cons de_int (da_cons (de_addK K (de_var 4) (de_ixK K (de_lst (da_cons de_int (da_cons de_int (da_cons (de_neg de_int) da_nil)))) (de_sub (de_var 3) de_int))) da_nil)))))))))⟩) pf_l_integer
theorem ok_law (T : Txt K mg) : FnG P w K mg base CX0 4 T.f_law T.fd_law ["_law_script"] (spLaw K) := by
  refine FnG.of (FunB.of T.F_law) sc_law (fun vs H Q E ⟨a, ns, e, _⟩ => by rw [e]; rfl) fun cdv A outer s H vs Q E hr hg h => ?_
  obtain ⟨t, D⟩ : ∃ t, ∀ a c, DSs (cxOf CX0 P w K mg base N_law "law" (defScope s_law) T.f_law cdv A outer s H E).nox (GA cls fld a c) ((defBody s_law).drop 1) t w_law :=
    ⟨_, fun a c => (dss_cons (ds_for PassesOwn.never rfl (di_range1 rfl T.z_range (da_cons de_int da_nil)) (dg_name sc_law.nd) (dss_cons (ds_set 3 sc_law.nd (de_callX K (ok_l_pick T) (hr.mono (by decide)) hg T.m_l_pick T.F_l_pick.kp (bd_l_pick T) .nil dfl_nil (da_cons (de_var 1) (da_cons (de_lst (da_cons de_int (da_cons de_int (da_cons de_int (da_cons de_int (da_cons de_int (da_cons de_int (da_cons de_int (da_cons de_int (da_cons de_int (da_cons de_int (da_cons de_int (da_cons (de_pow de_int de_int) (da_cons (de_addK K de_int (de_callX K (ok_l_draw T) (hr.mono (by decide)) hg T.m_l_draw T.F_l_draw.kp (bd_l_draw T) .nil dfl_nil (da_cons (de_var 1) (da_cons de_int da_nil)))) da_nil)))))))))))))) da_nil))))
    (dss_cons (ds_set 4 sc_law.nd (de_callX K (ok_l_integer T) (hr.mono (by decide)) hg T.m_l_integer T.F_l_integer.kp (bd_l_integer T) .nil dfl_nil (da_cons (de_var 1) (da_cons (de_var 3) da_nil))))
    (dss_cons (ds_set 5 sc_law.nd (de_ixK K (de_lc (own := [("_law_x", 6)]) rfl sc_law.nd (di_seqK K (de_callX K (ok_l_digits T) (hr.mono (by decide)) hg T.m_l_digits T.F_l_digits.kp (bd_l_digits T) .nil dfl_nil (da_cons (de_var 4) (da_cons (de_var 3) da_nil)))) (blkOk_by (N := N_law) (sc := defScope s_law) (by decide +kernel)) (fun _ _ _ _ _ => (dg_name sc_law.nd)) (fun _ _ _ _ _ => (dts_one (dt_cmp (op_neK K hr.units) ops_ne (de_var 6) de_int))) (fun _ _ _ _ _ => (de_var 6)) (by decide)) de_int))
    (dss_cons (ds_if (dt_cmp (op_neK K hr.units) ops_ne (de_callB (call_reprK K hg hr.units) calls_repr rfl T.z_repr (by decide +kernel) (da_cons (de_lst (da_cons (de_callX K (ok_last_digit T) (hr.mono (by decide)) hg T.m_last_digit T.F_last_digit.kp (bd_last_digit T) .nil dfl_nil (da_cons (de_var 4) (da_cons (de_var 3) da_nil))) (da_cons (de_callXK0 K (ok_last_digit T) (hr.mono (by decide)) hg T.m_last_digit T.F_last_digit.kp (kb_last_digit_0 T) .nil dfl_nil (dk_cons (de_var 3) (dk_cons (de_var 4) dk_nil))) (da_cons (de_callX K (ok_last_digit T) (hr.mono (by decide)) hg T.m_last_digit T.F_last_digit.kp (bd_last_digit T) .nil dfl_nil (da_cons (de_mul (de_var 4) (de_var 3)) (da_cons (de_var 3) da_nil))) da_nil)))) da_nil)) (de_callB (call_reprK K hg hr.units) calls_repr rfl T.z_repr (by decide +kernel) (da_cons (de_mul (de_lst (da_cons (de_var 5) da_nil)) de_int) da_nil))) (dss_one (ds_ret de_bl)) dss_nil)
    (dss_cons (ds_set 7 sc_law.nd (de_addK K de_int (de_callX K (ok_l_draw T) (hr.mono (by decide)) hg T.m_l_draw T.F_l_draw.kp (bd_l_draw T) .nil dfl_nil (da_cons (de_var 1) (da_cons (de_sub (de_var 3) de_int) da_nil)))))
    (dss_one (ds_if ((dw_and (dt_cmp (op_inK K) ops_in (de_var 3) (de_tup (da_cons de_int (da_cons de_int (da_cons de_int (da_cons de_int (da_cons de_int da_nil))))))) (dw_and1 (dt_cmp (op_neK K hr.units) ops_ne (de_callX K (ok_last_digit T) (hr.mono (by decide)) hg T.m_last_digit T.F_last_digit.kp (bd_last_digit T) .nil dfl_nil (da_cons (de_mul (de_var 4) (de_var 7)) (da_cons (de_var 3) da_nil))) (de_mod (de_mul (de_var 5) (de_var 7)) (de_var 3)))))).dt (dss_one (ds_ret de_bl)) dss_nil))))))))
    (dss_one (ds_ret de_bl)))⟩
  have D1 : PSs (cxOf CX0 P w K mg base N_law "law" (defScope s_law) T.f_law cdv A outer s H E).nox (defBody s_law) (tSeq (tAsg (tCall (spDeckA K) [] E0 (tCons (tVar 0) tNil)) (gName 1)) t) :=
    pss_cons (ps_set (i := 1) sc_law.nd rfl (.inl rfl) (pg_call (ok_l_deck T) (hr.mono (by decide)) hg rfl T.m_l_deck T.F_l_deck.kp (bd_l_deck T) .nil pass0 (pa_cons (pv 0) pa_nil))) (D 0 0).ps
  exact ⟨_, D1.nox, rd_lawA (by decide) (fun p c => (D p c).sim) pf_law h⟩
end
theorem all_mk {l : PySem.W.OpenLaw} {w : World} {K : PySem.W.Frag} {h : Heap} {mg : Str → Option Value} {fa : Addr} (X : K.In h) (G : h.Ns mainGlobals mg) (hfa : mg "law" = some (.ref fa))
    {f0 : Addr} {od0 an0 : Option Addr} {sl0 : Array (Option Value)} {oc0 kV0 dc0 pm0 cd0 ct0 : Value}
    (a0 : PySem.W.nsIn K mainGlobals "last_digit" = some (some (.ref f0))) (l0 : K.lookup f0 = some ⟨oc0, od0, .func (PySem.W.fnOf "last_digit" "last_digit" (defArgs s_last_digit) (defBody s_last_digit) (defScope s_last_digit) .none kV0 dc0 pm0 an0 cd0 ct0), sl0⟩) (c0 : PySem.W.codeIn K cd0 "last_digit" = true) (k0 : PySem.W.keepIn K (.ref f0) = true)
    {f1 : Addr} {od1 an1 : Option Addr} {sl1 : Array (Option Value)} {oc1 kV1 dc1 pm1 cd1 ct1 : Value}
    (a1 : PySem.W.nsIn K mainGlobals "_law_deck" = some (some (.ref f1))) (l1 : K.lookup f1 = some ⟨oc1, od1, .func (PySem.W.fnOf "_law_deck" "_law_deck" (defArgs s_l_deck) (defBody s_l_deck) (defScope s_l_deck) .none kV1 dc1 pm1 an1 cd1 ct1), sl1⟩) (c1 : PySem.W.codeIn K cd1 "_law_deck" = true) (k1 : PySem.W.keepIn K (.ref f1) = true)
    {f2 : Addr} {od2 an2 : Option Addr} {sl2 : Array (Option Value)} {oc2 kV2 dc2 pm2 cd2 ct2 : Value}
    (a2 : PySem.W.nsIn K mainGlobals "_law_draw" = some (some (.ref f2))) (l2 : K.lookup f2 = some ⟨oc2, od2, .func (PySem.W.fnOf "_law_draw" "_law_draw" (defArgs s_l_draw) (defBody s_l_draw) (defScope s_l_draw) .none kV2 dc2 pm2 an2 cd2 ct2), sl2⟩) (c2 : PySem.W.codeIn K cd2 "_law_draw" = true) (k2 : PySem.W.keepIn K (.ref f2) = true)
    {f3 : Addr} {od3 an3 : Option Addr} {sl3 : Array (Option Value)} {oc3 kV3 dc3 pm3 cd3 ct3 : Value}
    (a3 : PySem.W.nsIn K mainGlobals "_law_pick" = some (some (.ref f3))) (l3 : K.lookup f3 = some ⟨oc3, od3, .func (PySem.W.fnOf "_law_pick" "_law_pick" (defArgs s_l_pick) (defBody s_l_pick) (defScope s_l_pick) .none kV3 dc3 pm3 an3 cd3 ct3), sl3⟩) (c3 : PySem.W.codeIn K cd3 "_law_pick" = true) (k3 : PySem.W.keepIn K (.ref f3) = true)
    {f4 : Addr} {od4 an4 : Option Addr} {sl4 : Array (Option Value)} {oc4 kV4 dc4 pm4 cd4 ct4 : Value}
    (a4 : PySem.W.nsIn K mainGlobals "_law_digits" = some (some (.ref f4))) (l4 : K.lookup f4 = some ⟨oc4, od4, .func (PySem.W.fnOf "_law_digits" "_law_digits" (defArgs s_l_digits) (defBody s_l_digits) (defScope s_l_digits) .none kV4 dc4 pm4 an4 cd4 ct4), sl4⟩) (c4 : PySem.W.codeIn K cd4 "_law_digits" = true) (k4 : PySem.W.keepIn K (.ref f4) = true)
    {f5 : Addr} {od5 an5 : Option Addr} {sl5 : Array (Option Value)} {oc5 kV5 dc5 pm5 cd5 ct5 : Value}
    (a5 : PySem.W.nsIn K mainGlobals "_law_integer" = some (some (.ref f5))) (l5 : K.lookup f5 = some ⟨oc5, od5, .func (PySem.W.fnOf "_law_integer" "_law_integer" (defArgs s_l_integer) (defBody s_l_integer) (defScope s_l_integer) .none kV5 dc5 pm5 an5 cd5 ct5), sl5⟩) (c5 : PySem.W.codeIn K cd5 "_law_integer" = true) (k5 : PySem.W.keepIn K (.ref f5) = true)
    {f6 : Addr} {od6 an6 : Option Addr} {sl6 : Array (Option Value)} {oc6 kV6 dc6 pm6 cd6 ct6 : Value}
    (a6 : PySem.W.nsIn K mainGlobals "law" = some (some (.ref f6))) (l6 : K.lookup f6 = some ⟨oc6, od6, .func (PySem.W.fnOf "law" "law" (defArgs s_law) (defBody s_law) (defScope s_law) .none kV6 dc6 pm6 an6 cd6 ct6), sl6⟩) (c6 : PySem.W.codeIn K cd6 "law" = true) (k6 : PySem.W.keepIn K (.ref f6) = true)
    (z_int : PySem.W.nsIn K mainGlobals "int" = some none)
    (z_len : PySem.W.nsIn K mainGlobals "len" = some none)
    (z_list : PySem.W.nsIn K mainGlobals "list" = some none)
    (z_max : PySem.W.nsIn K mainGlobals "max" = some none)
    (z_range : PySem.W.nsIn K mainGlobals "range" = some none)
    (z_repr : PySem.W.nsIn K mainGlobals "repr" = some none)
    : ∃ fd : FuncData, (∀ (s : Shared) (v : Value), BindsTo s fd ⟨[v], []⟩ [("_law_script", v)]) ∧ ∀ base : Heap, K.In base → base.Ns mainGlobals mg → FnG l.prog w K mg base CX0 4 fa fd ["_law_script"] (spLaw K) := by
  have e := hfa.symm.trans (PySem.W.mg_of X G a6)
  cases e
  let T : Txt K mg := { f_last_digit := _, fd_last_digit := _, F_last_digit := fun_mk l0 c0 k0, m_last_digit := PySem.W.mg_of X G a0, f_l_deck := _, fd_l_deck := _, F_l_deck := fun_mk l1 c1 k1, m_l_deck := PySem.W.mg_of X G a1, f_l_draw := _, fd_l_draw := _, F_l_draw := fun_mk l2 c2 k2, m_l_draw := PySem.W.mg_of X G a2, f_l_pick := _, fd_l_pick := _, F_l_pick := fun_mk l3 c3 k3, m_l_pick := PySem.W.mg_of X G a3, f_l_digits := _, fd_l_digits := _, F_l_digits := fun_mk l4 c4 k4, m_l_digits := PySem.W.mg_of X G a4, f_l_integer := _, fd_l_integer := _, F_l_integer := fun_mk l5 c5 k5, m_l_integer := PySem.W.mg_of X G a5, f_law := _, fd_law := _, F_law := fun_mk l6 c6 k6, m_law := PySem.W.mg_of X G a6, z_int := PySem.W.mg_none_of X G z_int, z_len := PySem.W.mg_none_of X G z_len, z_list := PySem.W.mg_none_of X G z_list, z_max := PySem.W.mg_none_of X G z_max, z_range := PySem.W.mg_none_of X G z_range, z_repr := PySem.W.mg_none_of X G z_repr }
  exact ⟨T.fd_law, fun s v => .of_eq rfl, fun base _ _ => ok_law T⟩
end Pg
open PySem PySem.W PyProof.Rows
set_option maxRecDepth 100000 in
set_option maxHeartbeats 0 in
theorem PySem.Challenge.cw_whateverboxes_k24_last_digits_holds : PySem.Challenge.rw_whateverboxes_k24_last_digits.Holds := by
  w_on; o_law; k_head; (case hw => w_witness2)
  k_fill
  refine L3.walk_ofG (l := PySem.Challenge.rw_whateverboxes_k24_last_digits) (n := 63) (k := 4) (x := "_law_script") (sp := fun K => L3.spLaw K) rfl (by decide) rfl ⟨rfl, by decide, by decide⟩ (fun w h Y => PySem.W.kIn_of Y) ?F (fun _ _ a ns hl hS => ⟨a, ns, rfl, hS, hl, fun _ => rfl⟩)
  case F =>
    intro w mg fa h KX G hmg
    refine' Pg.all_mk KX G hmg ?a0 ?l0 ?c0 ?k0 ?a1 ?l1 ?c1 ?k1 ?a2 ?l2 ?c2 ?k2 ?a3 ?l3 ?c3 ?k3 ?a4 ?l4 ?c4 ?k4 ?a5 ?l5 ?c5 ?k5 ?a6 ?l6 ?c6 ?k6 ?z_int ?z_len ?z_list ?z_max ?z_range ?z_repr
    (case a0 => k_is)
    (case l0 => k_is)
    (case c0 => k_is)
    (case k0 => k_is)
    (case a1 => k_is)
    (case l1 => k_is)
    (case c1 => k_is)
    (case k1 => k_is)
    (case a2 => k_is)
    (case l2 => k_is)
    (case c2 => k_is)
    (case k2 => k_is)
    (case a3 => k_is)
    (case l3 => k_is)
    (case c3 => k_is)
    (case k3 => k_is)
    (case a4 => k_is)
    (case l4 => k_is)
    (case c4 => k_is)
    (case k4 => k_is)
    (case a5 => k_is)
    (case l5 => k_is)
    (case c5 => k_is)
    (case k5 => k_is)
    (case a6 => k_is)
    (case l6 => k_is)
    (case c6 => k_is)
    (case k6 => k_is)
    (case z_int => k_is)
    (case z_len => k_is)
    (case z_list => k_is)
    (case z_max => k_is)
    (case z_range => k_is)
    (case z_repr => k_is)
#print axioms PySem.Challenge.cw_whateverboxes_k24_last_digits_holds
