import PyProof.Rows.All
import Wide.All
import OpenK.AllK
import Wide.FinOn
import PySem.Challenge.RW_whateverboxes_k26_sorters
import HandS.ForMost
import HandS.Wide
import HandS.Style
import HandS.TupAny
import HandS.TupMul
import HandS.Defaults
import HandS.Star
import HandS.More
import HandS.ClsMeth
import HandS.Zip
import KE.GoesMore
import KE.GoesZip
import KE.GoesEnum
import HandS.IsInst
import HandS.SortInts
import HandS.Conv
import HandS.Text
import HandS.RaiseMore
import HandS.Strs
import HandS.SetBool
import HandS.Dict
import HandS.WordsDict
import HandS.MakeKwOnly
import HandS.TryOnly
set_option Elab.async false
set_option linter.all false
set_option maxRecDepth 100000
set_option autoImplicit false
namespace L3
open PySem L2
inductive D where
  | non | bl (b : Bool) | int (i : Int) | str (x : Str)
  | lst (xs : List D) | tup (xs : List D)
  | dct (ks : List Key) (vs : List D)
  | ins (t : Nat) (fs : List D)
  | deck
  | cls (t : Nat)
  /-- an object as the heap has it -/
  | raw (a : Addr) (o : HO)
structure Gx where
  cls : Nat → Addr
  fld : Nat → List Str
  deck : Addr
  dk : List Addr
  DI : Nat → Hp → Prop
  frame : ∀ n (H H' : Hp), (∀ a ∈ dk, ∀ o, H a = some o → H' a = some o) → DI n H → DI n H'
  dal : ∀ n H, DI n H → ∀ a ∈ dk, H a ≠ none
mutual
def Rep (K : PySem.W.Frag) (G : Gx) (H : Hp) (v : V) : D → Prop
  | .non => v = .non
  | .bl b => v = .bl b
  | .int i => v = .int i
  | .str x => v = .str x
  | .lst ds => ∃ a xs, v = .ref a ∧ H a = some (.lst xs) ∧ RepAll K G H xs ds
  | .tup ds => ∃ a xs, v = .ref a ∧ SqT K H a xs ∧ RepAll K G H xs ds
  | .dct ks ds => ∃ a xs, v = .ref a ∧ H a = some (.dK (ks.zip xs)) ∧ ks.length = xs.length ∧ RepAll K G H xs ds
  | .ins t ds => ∃ a dx xs, v = .ref a ∧ H a = some (.ins (G.cls t) dx ((G.fld t).zip xs)) ∧ xs.length ≤ (G.fld t).length ∧ RepAll K G H xs ds
  | .deck => v = .ref G.deck
  | .cls t => v = .ref (G.cls t)
  | .raw a o => v = .ref a ∧ H a = some o
def RepAll (K : PySem.W.Frag) (G : Gx) (H : Hp) (vs : List V) : List D → Prop
  | [] => vs = []
  | d :: ds => ∃ x xs, vs = x :: xs ∧ Rep K G H x d ∧ RepAll K G H xs ds
end
theorem same_t {K : PySem.W.Frag} {H H' : Hp} {a : Addr} {xs : List V} (e : Same H H') (h : SqT K H a xs) : SqT K H' a xs := by
  rcases h with (h | ⟨o, h⟩) | h
  · exact .inl (.inl (e _ _ h))
  · exact .inl (.inr ⟨o, e _ _ h⟩)
  · exact .inr h
variable {K : PySem.W.Frag} {G : Gx} {H H' H1 H2 : Hp} {v : V} {d : D}
mutual
theorem Rep.mono (e : Same H H') : ∀ (d : D) {v : V}, Rep K G H v d → Rep K G H' v d
  | .non, _, h => h
  | .bl _, _, h => h
  | .int _, _, h => h
  | .str _, _, h => h
  | .lst ds, _, ⟨a, xs, h1, h2, h3⟩ => ⟨a, xs, h1, e _ _ h2, RepAll.mono e ds h3⟩
  | .tup ds, _, ⟨a, xs, h1, h2, h3⟩ => ⟨a, xs, h1, same_t e h2, RepAll.mono e ds h3⟩
  | .dct ks ds, _, ⟨a, xs, h1, h2, h3, h4⟩ => ⟨a, xs, h1, e _ _ h2, h3, RepAll.mono e ds h4⟩
  | .ins t ds, _, ⟨a, dx, xs, h1, h2, h3, h4⟩ => ⟨a, dx, xs, h1, e _ _ h2, h3, RepAll.mono e ds h4⟩
  | .deck, _, h => h
  | .cls _, _, h => h
  | .raw _ _, _, ⟨h1, h2⟩ => ⟨h1, e _ _ h2⟩
theorem RepAll.mono (e : Same H H') : ∀ (ds : List D) {vs : List V}, RepAll K G H vs ds → RepAll K G H' vs ds
  | [], _, h => h
  | d :: ds, _, ⟨x, xs, h1, h2, h3⟩ => ⟨x, xs, h1, Rep.mono e d h2, RepAll.mono e ds h3⟩
end
theorem RepAll.length : ∀ {ds : List D} {vs : List V}, RepAll K G H vs ds → vs.length = ds.length
  | [], _, h => by cases h; rfl
  | d :: ds, _, ⟨x, xs, h1, h2, h3⟩ => by subst h1; simp [RepAll.length h3]
theorem RepAll.get : ∀ {ds : List D} {vs : List V} {i : Nat} {d : D}, RepAll K G H vs ds → ds[i]? = some d → ∃ v, vs[i]? = some v ∧ Rep K G H v d
  | [], _, _, _, _, e => by simp at e
  | d :: ds, _, 0, d', ⟨x, xs, h1, h2, h3⟩, e => by
    subst h1; simp at e; subst e; exact ⟨x, rfl, h2⟩
  | d :: ds, _, i + 1, d', ⟨x, xs, h1, h2, h3⟩, e => by
    subst h1
    obtain ⟨v, a, b⟩ := RepAll.get (i := i) (d := d') h3 (by simpa using e)
    exact ⟨v, by simpa using a, b⟩
theorem RepAll.getV : ∀ {ds : List D} {vs : List V} {i : Nat} {v : V}, RepAll K G H vs ds → vs[i]? = some v → ∃ d, ds[i]? = some d ∧ Rep K G H v d
  | [], _, _, _, h, e => by cases h; simp at e
  | d :: ds, _, 0, v, ⟨x, xs, h1, h2, h3⟩, e => by
    subst h1; simp at e; subst e; exact ⟨d, rfl, h2⟩
  | d :: ds, _, i + 1, v, ⟨x, xs, h1, h2, h3⟩, e => by
    subst h1
    obtain ⟨v, a, b⟩ := RepAll.getV (i := i) (v := v) h3 (by simpa using e)
    exact ⟨v, by simpa using a, b⟩
theorem RepAll.append : ∀ {ds es : List D} {vs us : List V}, RepAll K G H vs ds → RepAll K G H us es → RepAll K G H (vs ++ us) (ds ++ es)
  | [], _, _, _, h, h' => by cases h; exact h'
  | d :: ds, _, _, _, ⟨x, xs, h1, h2, h3⟩, h' => by subst h1; exact ⟨x, xs ++ _, rfl, h2, RepAll.append h3 h'⟩
theorem RepAll.drop : ∀ (n : Nat) {ds : List D} {vs : List V}, RepAll K G H vs ds → RepAll K G H (vs.drop n) (ds.drop n)
  | 0, _, _, h => h
  | _ + 1, [], _, h => by cases h; exact rfl
  | n + 1, d :: ds, _, ⟨x, xs, h1, h2, h3⟩ => by subst h1; exact RepAll.drop n h3
theorem RepAll.take : ∀ (n : Nat) {ds : List D} {vs : List V}, RepAll K G H vs ds → RepAll K G H (vs.take n) (ds.take n)
  | 0, _, _, h => rfl
  | _ + 1, [], _, h => by cases h; exact rfl
  | n + 1, d :: ds, _, ⟨x, xs, h1, h2, h3⟩ => by subst h1; exact ⟨x, _, rfl, h2, RepAll.take n h3⟩
theorem RepAll.reverse : ∀ {ds : List D} {vs : List V}, RepAll K G H vs ds → RepAll K G H vs.reverse ds.reverse
  | [], _, h => by cases h; exact rfl
  | d :: ds, _, ⟨x, xs, h1, h2, h3⟩ => by
    subst h1
    rw [List.reverse_cons, List.reverse_cons]
    exact (RepAll.reverse h3).append ⟨x, [], rfl, h2, rfl⟩
theorem RepAll.set : ∀ {ds : List D} {vs : List V} (i : Nat) {v : V} {d : D}, RepAll K G H vs ds → Rep K G H v d → RepAll K G H (vs.set i v) (ds.set i d)
  | [], _, _, _, _, h, _ => by cases h; exact rfl
  | _ :: _, _, 0, _, _, ⟨x, xs, h1, h2, h3⟩, r => by subst h1; exact ⟨_, xs, rfl, r, h3⟩
  | _ :: _, _, i + 1, _, _, ⟨x, xs, h1, h2, h3⟩, r => by subst h1; exact ⟨x, _, rfl, h2, RepAll.set i h3 r⟩
theorem RepAll.one {v : V} {d : D} (h : Rep K G H v d) : RepAll K G H [v] [d] := ⟨v, [], rfl, h, rfl⟩
theorem RepAll.dropLast {ds : List D} {vs : List V} (h : RepAll K G H vs ds) : RepAll K G H vs.dropLast ds.dropLast := by
  rw [List.dropLast_eq_take, List.dropLast_eq_take, h.length]; exact h.take _
theorem RepAll.eraseIdx : ∀ {ds : List D} {vs : List V} (i : Nat), RepAll K G H vs ds → RepAll K G H (vs.eraseIdx i) (ds.eraseIdx i)
  | [], _, _, h => by cases h; exact rfl
  | _ :: _, _, 0, ⟨x, xs, h1, h2, h3⟩ => by subst h1; exact h3
  | _ :: _, _, i + 1, ⟨x, xs, h1, h2, h3⟩ => by subst h1; exact ⟨x, _, rfl, h2, RepAll.eraseIdx i h3⟩
theorem RepAll.ints : ∀ {ns : List Int} {vs : List V}, RepAll K G H vs (ns.map D.int) → vs = ns.map V.int
  | [], _, h => h
  | n :: ns, _, ⟨x, xs, h1, h2, h3⟩ => by
    have e : x = .int n := h2
    subst h1 e
    rw [RepAll.ints h3]; rfl
theorem RepAll.of_ints : ∀ (ns : List Int), RepAll K G H (ns.map V.int) (ns.map D.int)
  | [] => rfl
  | n :: ns => ⟨.int n, _, rfl, rfl, RepAll.of_ints ns⟩
theorem RepAll.strs : ∀ {ns : List Str} {vs : List V}, RepAll K G H vs (ns.map D.str) → vs = ns.map V.str
  | [], _, h => h
  | n :: ns, _, ⟨x, xs, h1, h2, h3⟩ => by
    have e : x = .str n := h2
    subst h1 e
    rw [RepAll.strs h3]; rfl
theorem RepAll.of_strs : ∀ (ns : List Str), RepAll K G H (ns.map V.str) (ns.map D.str)
  | [] => rfl
  | n :: ns => ⟨.str n, _, rfl, rfl, RepAll.of_strs ns⟩
theorem RepAll.bls : ∀ {ns : List Bool} {vs : List V}, RepAll K G H vs (ns.map D.bl) → vs = ns.map V.bl
  | [], _, h => h
  | n :: ns, _, ⟨x, xs, h1, h2, h3⟩ => by
    have e : x = .bl n := h2
    subst h1 e
    rw [RepAll.bls h3]; rfl

open Classical in
noncomputable def mask (M : List Addr) (H : Hp) : Hp := fun a => if a ∈ M then none else H a
variable {M M' : List Addr}
theorem mask_in {a : Addr} (h : a ∈ M) : mask M H a = none := if_pos h
theorem mask_out {a : Addr} (h : a ∉ M) : mask M H a = H a := if_neg h
theorem mask_some {a : Addr} {o : HO} (h : mask M H a = some o) : a ∉ M ∧ H a = some o := by
  by_cases q : a ∈ M
  · rw [mask_in q] at h; cases h
  · rw [mask_out q] at h; exact ⟨q, h⟩
theorem mask_le : Same (mask M H) H := fun _ _ h => (mask_some h).2
theorem mask_same (h : ∀ b o, b ∉ M → H b = some o → H' b = some o) : Same (mask M H) (mask M H') := fun b o e => by
  obtain ⟨q, e⟩ := mask_some e
  rw [mask_out q]; exact h b o q e
theorem mask_mono (h : Same H H') : Same (mask M H) (mask M H') := mask_same fun b o _ e => h b o e
theorem mask_sub (h : ∀ a ∈ M', a ∈ M) : Same (mask M H) (mask M' H) := fun b o e => by
  obtain ⟨q, e⟩ := mask_some e
  rw [mask_out fun z => q (h b z)]; exact e
theorem mask_upd {p : Addr} {o : HO} (h : p ∈ M) : mask M (upd H p o) = mask M H := by
  funext a
  by_cases q : a ∈ M
  · rw [mask_in q, mask_in q]
  · rw [mask_out q, mask_out q, upd_ne fun z => q (by rw [z]; exact h)]
theorem mask_new {p : Addr} (hp : H p = none) (e : Same H H') : Same (mask M H) (mask (p :: M) H') := fun b o h => by
  obtain ⟨q, h⟩ := mask_some h
  have : b ∉ p :: M := fun z => by
    rcases List.mem_cons.mp z with z | z
    · subst z; rw [hp] at h; cases h
    · exact q z
  rw [mask_out this]; exact e b o h

inductive SV where
  | sh (d : D) | ow (d : D)
structure St3 where
  sl : List (Option SV)
  n : Nat
/-- a list, a dict that may change, at p -/
def OwnAt (K : PySem.W.Frag) (G : Gx) (M : List Addr) (H : Hp) (p : Addr) : D → Prop
  | .lst ds => ∃ xs, H p = some (.lst xs) ∧ RepAll K G (mask M H) xs ds
  | .dct ks ds => ∃ xs, H p = some (.dK (ks.zip xs)) ∧ ks.length = xs.length ∧ RepAll K G (mask M H) xs ds
  | .ins t ds => ∃ dx xs, H p = some (.ins (G.cls t) dx ((G.fld t).zip xs)) ∧ xs.length ≤ (G.fld t).length ∧ RepAll K G (mask M H) xs ds
  | _ => False
theorem OwnAt.al {p : Addr} : ∀ {d : D}, OwnAt K G M H p d → H p ≠ none
  | .lst _, ⟨_, h, _⟩ => by rw [h]; simp
  | .dct _ _, ⟨_, h, _⟩ => by rw [h]; simp
  | .ins _ _, ⟨_, _, h, _⟩ => by rw [h]; simp
theorem OwnAt.to {p : Addr} (hm : Same (mask M H) (mask M' H')) (hp : ∀ o, H p = some o → H' p = some o) : ∀ {d : D}, OwnAt K G M H p d → OwnAt K G M' H' p d
  | .lst _, ⟨xs, h, r⟩ => ⟨xs, hp _ h, r.mono hm⟩
  | .dct _ _, ⟨xs, h, l, r⟩ => ⟨xs, hp _ h, l, r.mono hm⟩
  | .ins _ _, ⟨dx, xs, h, l, r⟩ => ⟨dx, xs, hp _ h, l, r.mono hm⟩
theorem OwnAt.rep {p : Addr} (hm : Same (mask M H) H1) (hp : ∀ o, H p = some o → H1 p = some o) : ∀ {d : D}, OwnAt K G M H p d → Rep K G H1 (.ref p) d
  | .lst _, ⟨xs, h, r⟩ => ⟨p, xs, rfl, hp _ h, r.mono hm⟩
  | .dct _ _, ⟨xs, h, l, r⟩ => ⟨p, xs, rfl, hp _ h, l, r.mono hm⟩
  | .ins _ _, ⟨dx, xs, h, l, r⟩ => ⟨p, dx, xs, rfl, hp _ h, l, r.mono hm⟩
/-- slf: the instance that an __init__ is making (its slot is the first one) -/
structure Ent where
  H0 : Hp
  ads : List Addr
  gh : List (V × D)
  slf : Option Addr := none
def D.isIns : D → Bool
  | .ins _ _ => true
  | _ => false
def isOwn (δ : St3) (i : Nat) : Prop := ∃ d : D, δ.sl[i]? = some (some (SV.ow d))
structure SR (K : PySem.W.Frag) (G : Gx) (E : Ent) (am : Nat → Addr) (M : List Addr) (σ : L2.St) (δ : St3) (H : Hp) : Prop where
  len : σ.length = δ.sl.length
  sh : ∀ (i : Nat) (d : D), δ.sl[i]? = some (some (SV.sh d)) → ∃ v, σ[i]? = some (some v) ∧ Rep K G (mask M H) v d
  ow : ∀ (i : Nat) (d : D), δ.sl[i]? = some (some (SV.ow d)) → σ[i]? = some (some (.ref (am i))) ∧ am i ∈ M ∧ am i ∉ E.ads ∧ E.H0 (am i) = none ∧ OwnAt K G M H (am i) d
  inj : ∀ i j, isOwn δ i → isOwn δ j → am i = am j → i = j
  ads : ∀ a ∈ E.ads, a ∈ M
  dks : ∀ a ∈ G.dk, a ∈ E.ads
  al : ∀ a ∈ M, H a ≠ none
  base : ∀ b o, E.H0 b = some o → b ∉ G.dk → H b = some o
  di : G.DI δ.n H
  gh : ∀ p ∈ E.gh, Rep K G (mask M H) p.1 p.2
  slf : ∀ x, E.slf = some x → ∀ d, δ.sl[0]? = some (some (SV.ow d)) → d.isIns = true → am 0 = x
/-- what an expression's run may change: the deck, the own lists -/
def Ext (G : Gx) (am : Nat → Addr) (δ : St3) (H H' : Hp) : Prop := ∀ b o, H b = some o → b ∉ G.dk → (∀ i, isOwn δ i → am i ≠ b) → H' b = some o
variable {E : Ent} {am : Nat → Addr} {σ : L2.St} {δ δ' δ1 δ2 : St3}
theorem Ext.of (h : Same H H') : Ext G am δ H H' := fun b o e _ _ => h b o e
theorem Ext.refl : Ext G am δ H H := fun _ _ e _ _ => e
theorem Ext.trans (a : Ext G am δ H H1) (o : ∀ i, isOwn δ1 i → isOwn δ i) (b : Ext G am δ1 H1 H2) : Ext G am δ H H2 := fun x u e h1 h2 => b x u (a x u e h1 h2) h1 fun i hi => h2 i (o i hi)
theorem SR.mask (S : SR K G E am M σ δ H) (e : Ext G am δ H H') : Same (mask M H) (mask M H') := mask_same fun b o q h =>
  e b o h (fun z => q (S.ads b (S.dks b z))) fun i ⟨d, hi⟩ z => q (z ▸ (S.ow i d hi).2.1)
theorem SR.grow (S : SR K G E am M σ δ H) (e : Same H H') : SR K G E am M σ δ H' where
  len := S.len
  sh := fun i d h => let ⟨v, a, b⟩ := S.sh i d h; ⟨v, a, b.mono (mask_mono e)⟩
  ow := fun i d h => let ⟨a, b, c, f, g⟩ := S.ow i d h; ⟨a, b, c, f, g.to (mask_mono e) fun o => e _ o⟩
  inj := S.inj
  ads := S.ads
  dks := S.dks
  al := fun a h z => by
    cases q : H a with
    | none => exact S.al a h q
    | some o => rw [e a o q] at z; cases z
  base := fun b o h k => e b o (S.base b o h k)
  di := G.frame _ _ _ (fun a _ o h => e a o h) S.di
  gh := fun p h => (S.gh p h).mono (mask_mono e)
  slf := S.slf
/-- one more thing that is not leant on -/
theorem SR.more {p : Addr} (S : SR K G E am M σ δ H) (hp : H p = none) (e : Same H H') (hn : H' p ≠ none) : SR K G E am (p :: M) σ δ H' where
  len := S.len
  sh := fun i d h => let ⟨v, a, b⟩ := S.sh i d h; ⟨v, a, b.mono (mask_new hp e)⟩
  ow := fun i d h => let ⟨a, b, c, f, g⟩ := S.ow i d h; ⟨a, List.mem_cons_of_mem _ b, c, f, g.to (mask_new hp e) fun o => e _ o⟩
  inj := S.inj
  ads := fun a h => List.mem_cons_of_mem _ (S.ads a h)
  dks := S.dks
  al := fun a h z => by
    rcases List.mem_cons.mp h with h | h
    · subst h; exact hn z
    · cases q : H a with
      | none => exact S.al a h q
      | some o => rw [e a o q] at z; cases z
  base := fun b o h k => e b o (S.base b o h k)
  di := G.frame _ _ _ (fun a _ o h => e a o h) S.di
  gh := fun p h => (S.gh p h).mono (mask_new hp e)
  slf := S.slf
/-- the deck may change -/
theorem SR.after {n : Nat} (S : SR K G E am M σ δ H) (e : ∀ b o, H b = some o → b ∉ G.dk → H' b = some o) (di : G.DI n H') : SR K G E am M σ ⟨δ.sl, n⟩ H' where
  len := S.len
  sh := fun i d h => let ⟨v, a, b⟩ := S.sh i d h; ⟨v, a, b.mono (mask_same fun b o q h => e b o h fun z => q (S.ads b (S.dks b z)))⟩
  ow := fun i d h => let ⟨a, b, c, f, g⟩ := S.ow i d h; ⟨a, b, c, f, g.to (mask_same fun b o q h => e b o h fun z => q (S.ads b (S.dks b z))) fun o h => e _ o h fun z => c (S.dks _ z)⟩
  inj := S.inj
  ads := S.ads
  dks := S.dks
  al := fun a h z => by
    by_cases k : a ∈ G.dk
    · exact G.dal _ _ di a k z
    · cases q : H a with
      | none => exact S.al a h q
      | some o => rw [e a o q k] at z; cases z
  base := fun b o h k => e b o (S.base b o h k) k
  di := di
  gh := fun p h => (S.gh p h).mono (mask_same fun b o q h => e b o h fun z => q (S.ads b (S.dks b z)))
  slf := S.slf
theorem get_set {α : Type} {l : List α} {i j : Nat} {x y : α} (h : (l.set i x)[j]? = some y) : (j = i ∧ y = x) ∨ (j ≠ i ∧ l[j]? = some y) := by
  by_cases e : i = j
  · subst e
    rw [List.getElem?_set_self'] at h
    cases q : l[i]? with
    | none => rw [q] at h; cases h
    | some z => rw [q] at h; exact .inl ⟨rfl, (Option.some.inj h).symm⟩
  · rw [List.getElem?_set_ne e] at h
    exact .inr ⟨fun z => e z.symm, h⟩
theorem set_get {α β : Type} {l : List α} {m : List β} {i : Nat} {x : α} {y : β} {z : β} (hl : l.length = m.length) (h : (m.set i y)[i]? = some z) : (l.set i x)[i]? = some x := by
  have : i < m.length := by
    have := (List.getElem?_eq_some_iff.mp h).1
    rwa [List.length_set] at this
  rw [List.getElem?_set_self (by omega)]
theorem SR.set_sh {i : Nat} (S : SR K G E am M σ δ H) (r : Rep K G (L3.mask M H) v d) : SR K G E am M (σ.set i (some v)) ⟨δ.sl.set i (some (.sh d)), δ.n⟩ H where
  len := by simp [S.len]
  sh := fun j e h => by
    rcases get_set h with ⟨q, z⟩ | ⟨q, z⟩
    · subst q
      injection z with z; injection z with z
      subst z
      exact ⟨v, set_get S.len h, r⟩
    · rw [List.getElem?_set_ne (Ne.symm q)]; exact S.sh j e z
  ow := fun j e h => by
    rcases get_set h with ⟨q, z⟩ | ⟨q, z⟩
    · injection z with z; cases z
    · rw [List.getElem?_set_ne (Ne.symm q)]; exact S.ow j e z
  inj := fun a b ⟨x, ha⟩ ⟨y, hb⟩ => by
    rcases get_set ha with ⟨_, z⟩ | ⟨_, ha⟩
    · injection z with z; cases z
    · rcases get_set hb with ⟨_, z⟩ | ⟨_, hb⟩
      · injection z with z; cases z
      · exact S.inj a b ⟨x, ha⟩ ⟨y, hb⟩
  ads := S.ads
  dks := S.dks
  al := S.al
  base := S.base
  di := S.di
  gh := S.gh
  slf := fun x hx d' h k => by
    rcases get_set h with ⟨_, z⟩ | ⟨_, z⟩
    · first | cases z | (injection z with z; cases z)
    · exact S.slf x hx d' z k
theorem SR.set_none {i : Nat} (S : SR K G E am M σ δ H) : SR K G E am M (σ.set i none) ⟨δ.sl.set i none, δ.n⟩ H where
  len := by simp [S.len]
  sh := fun j e h => by
    rcases get_set h with ⟨q, z⟩ | ⟨q, z⟩
    · cases z
    · rw [List.getElem?_set_ne (Ne.symm q)]; exact S.sh j e z
  ow := fun j e h => by
    rcases get_set h with ⟨q, z⟩ | ⟨q, z⟩
    · cases z
    · rw [List.getElem?_set_ne (Ne.symm q)]; exact S.ow j e z
  inj := fun a b ⟨x, ha⟩ ⟨y, hb⟩ => by
    rcases get_set ha with ⟨_, z⟩ | ⟨_, ha⟩
    · cases z
    · rcases get_set hb with ⟨_, z⟩ | ⟨_, hb⟩
      · cases z
      · exact S.inj a b ⟨x, ha⟩ ⟨y, hb⟩
  ads := S.ads
  dks := S.dks
  al := S.al
  base := S.base
  di := S.di
  gh := S.gh
  slf := fun x hx d' h k => by
    rcases get_set h with ⟨_, z⟩ | ⟨_, z⟩
    · first | cases z | (injection z with z; cases z)
    · exact S.slf x hx d' z k
/-- a slot takes a list that nothing holds (p is among what is not leant on) -/
theorem SR.set_ow {i : Nat} {p : Addr} (S : SR K G E am M σ δ H) (hp : p ∈ M) (ha : p ∉ E.ads) (hm : ∀ (j : Nat) (d : D), δ.sl[j]? = some (some (SV.ow d)) → am j ≠ p) (h0 : E.H0 p = none) (o : OwnAt K G M H p d) (nins : d.isIns = false) :
    SR K G E (fun j => if j = i then p else am j) M (σ.set i (some (.ref p))) ⟨δ.sl.set i (some (.ow d)), δ.n⟩ H where
  len := by simp [S.len]
  sh := fun j e h => by
    rcases get_set h with ⟨q, z⟩ | ⟨q, z⟩
    · injection z with z; cases z
    · rw [List.getElem?_set_ne (Ne.symm q)]; exact S.sh j e z
  ow := fun j e h => by
    rcases get_set h with ⟨q, z⟩ | ⟨q, z⟩
    · subst q
      injection z with z; injection z with z
      subst z
      rw [if_pos rfl]
      exact ⟨set_get S.len h, hp, ha, h0, o⟩
    · rw [List.getElem?_set_ne (Ne.symm q), if_neg q]; exact S.ow j e z
  inj := fun a b ⟨x, hA⟩ ⟨y, hB⟩ e => by
    rcases get_set hA with ⟨q1, z⟩ | ⟨q1, hA⟩
    · rcases get_set hB with ⟨q2, z⟩ | ⟨q2, hB⟩
      · exact q1.trans q2.symm
      · rw [if_pos q1, if_neg q2] at e
        exact absurd e.symm (hm b y hB)
    · rcases get_set hB with ⟨q2, z⟩ | ⟨q2, hB⟩
      · rw [if_neg q1, if_pos q2] at e
        exact absurd e (hm a x hA)
      · rw [if_neg q1, if_neg q2] at e
        exact S.inj a b ⟨x, hA⟩ ⟨y, hB⟩ e
  ads := S.ads
  dks := S.dks
  al := S.al
  base := S.base
  di := S.di
  gh := S.gh
  slf := fun x hx d' h k => by
    rcases get_set h with ⟨_, z⟩ | ⟨q, z⟩
    · injection z with z
      injection z with z
      subst z
      rw [nins] at k
      cases k
    · rw [if_neg q]; exact S.slf x hx d' z k
/-- leant on again -/
theorem SR.less (S : SR K G E am M σ δ H) (hs : ∀ a ∈ M', a ∈ M) (ha : ∀ a ∈ E.ads, a ∈ M') (hm : ∀ (j : Nat) (d : D), δ.sl[j]? = some (some (SV.ow d)) → am j ∈ M') : SR K G E am M' σ δ H where
  len := S.len
  sh := fun j e h => let ⟨v, a, b⟩ := S.sh j e h; ⟨v, a, b.mono (mask_sub hs)⟩
  ow := fun j e h => let ⟨a, b, c, f, g⟩ := S.ow j e h; ⟨a, hm j e h, c, f, g.to (mask_sub hs) fun o e => e⟩
  inj := S.inj
  ads := ha
  dks := S.dks
  al := fun a h => S.al a (hs a h)
  base := S.base
  di := S.di
  gh := fun p h => (S.gh p h).mono (mask_sub hs)
  slf := S.slf
theorem SR.ungh {l l' : List (V × D)} {H0 : Hp} {ads : List Addr} {sf : Option Addr} (S : SR K G ⟨H0, ads, l, sf⟩ am M σ δ H) (h : ∀ p ∈ l', p ∈ l) : SR K G ⟨H0, ads, l', sf⟩ am M σ δ H :=
  ⟨S.len, S.sh, S.ow, S.inj, S.ads, S.dks, S.al, S.base, S.di, fun p hp => S.gh p (h p hp), S.slf⟩
theorem SR.addgh {l : List (V × D)} {H0 : Hp} {ads : List Addr} {sf : Option Addr} (S : SR K G ⟨H0, ads, l, sf⟩ am M σ δ H) (l' : List (V × D)) (h : ∀ p ∈ l', Rep K G (L3.mask M H) p.1 p.2) : SR K G ⟨H0, ads, l' ++ l, sf⟩ am M σ δ H :=
  ⟨S.len, S.sh, S.ow, S.inj, S.ads, S.dks, S.al, S.base, S.di, fun p hp => (List.mem_append.mp hp).elim (h p) (S.gh p), S.slf⟩
/-- an own list changes -/
theorem SR.mut {i : Nat} {o : HO} {d' : D} (S : SR K G E am M σ δ H) (h : δ.sl[i]? = some (some (.ow d))) (ho : OwnAt K G M (upd H (am i) o) (am i) d') (hi : d'.isIns = d.isIns) : SR K G E am M σ ⟨δ.sl.set i (some (.ow d')), δ.n⟩ (upd H (am i) o) := by
  obtain ⟨h1, h2, h3, h4, h5⟩ := S.ow i d h
  refine ⟨by simp [S.len], fun j e hj => ?_, fun j e hj => ?_, fun a b ⟨x, ha⟩ ⟨y, hb⟩ e => ?_, S.ads, S.dks, fun a ha => ?_, fun b u hb k => ?_, ?_, fun p hp => by rw [mask_upd h2]; exact S.gh p hp, fun x hx e hj k => ?_⟩
  · rcases get_set hj with ⟨q, z⟩ | ⟨q, z⟩
    · injection z with z; cases z
    · rw [mask_upd h2]; exact S.sh j e z
  · rcases get_set hj with ⟨q, z⟩ | ⟨q, z⟩
    · subst q
      injection z with z; injection z with z
      subst z
      exact ⟨h1, h2, h3, h4, ho⟩
    · obtain ⟨a, b, c, f, g⟩ := S.ow j e z
      have ne : am j ≠ am i := fun w => q (S.inj j i ⟨_, z⟩ ⟨_, h⟩ w)
      refine ⟨a, b, c, f, g.to (by rw [mask_upd h2]; exact Same.refl _) fun o e => ?_⟩
      rw [upd_ne ne]; exact e
  · have w : ∀ k, isOwn ⟨δ.sl.set i (some (.ow d')), δ.n⟩ k → isOwn δ k := fun k ⟨x, hk⟩ => by
      rcases get_set hk with ⟨q, z⟩ | ⟨q, z⟩
      · subst q; exact ⟨_, h⟩
      · exact ⟨_, z⟩
    exact S.inj a b (w a ⟨x, ha⟩) (w b ⟨y, hb⟩) e
  · by_cases q : a = am i
    · subst q; rw [upd_same]; simp
    · rw [upd_ne q]; exact S.al a ha
  · have ne : b ≠ am i := fun z => by subst z; rw [h4] at hb; cases hb
    rw [upd_ne ne]; exact S.base b u hb k
  · refine G.frame _ _ _ (fun a ha u e => ?_) S.di
    have ne : a ≠ am i := fun z => h3 (z ▸ S.dks a ha)
    rw [upd_ne ne]; exact e
  · rcases get_set hj with ⟨q, z⟩ | ⟨_, z⟩
    · subst q
      injection z with z
      injection z with z
      subst z
      exact S.slf x hx d h (hi ▸ k)
    · exact S.slf x hx e z k
/-- leant on again: an own list is given away -/
theorem SR.free {i : Nat} (S : SR K G E am M σ δ H) (h : δ.sl[i]? = some (some (.ow d))) : ∃ M', (∀ a ∈ M', a ∈ M) ∧ SR K G E am M' σ ⟨δ.sl.set i (some (.sh d)), δ.n⟩ H := by
  obtain ⟨h1, h2, h3, h4, h5⟩ := S.ow i d h
  classical
  have sub : ∀ a ∈ M.filter (fun a => decide (a ≠ am i)), a ∈ M := fun a ha => (List.mem_filter.mp ha).1
  have ins : ∀ a ∈ M, a ≠ am i → a ∈ M.filter (fun a => decide (a ≠ am i)) := fun a ha q => List.mem_filter.mpr ⟨ha, decide_eq_true q⟩
  have le : Same (L3.mask M H) (L3.mask (M.filter fun a => decide (a ≠ am i)) H) := mask_sub sub
  have out : am i ∉ M.filter (fun a => decide (a ≠ am i)) := fun z => of_decide_eq_true (List.mem_filter.mp z).2 rfl
  have own : ∀ k, isOwn ⟨δ.sl.set i (some (.sh d)), δ.n⟩ k → isOwn δ k := fun k ⟨x, hk⟩ => by
    rcases get_set hk with ⟨q, z⟩ | ⟨q, z⟩
    · injection z with z; cases z
    · exact ⟨_, z⟩
  refine ⟨M.filter fun a => decide (a ≠ am i), sub, by simp [S.len], fun j e hj => ?_, fun j e hj => ?_, fun a b ha hb e => S.inj a b (own a ha) (own b hb) e, fun a ha => ?_, S.dks, fun a ha => S.al a (sub a ha), S.base, S.di, fun p hp => (S.gh p hp).mono le, fun x hx e hj k => ?_⟩
  · rcases get_set hj with ⟨q, z⟩ | ⟨q, z⟩
    · subst q
      injection z with z; injection z with z
      subst z
      refine ⟨_, h1, h5.rep le fun o e => ?_⟩
      rw [mask_out out]; exact e
    · obtain ⟨v, a, b⟩ := S.sh j e z
      exact ⟨v, a, b.mono le⟩
  · rcases get_set hj with ⟨q, z⟩ | ⟨q, z⟩
    · injection z with z; cases z
    · obtain ⟨a, b, c, f, g⟩ := S.ow j e z
      have ne : am j ≠ am i := fun w => q (S.inj j i ⟨_, z⟩ ⟨_, h⟩ w)
      exact ⟨a, ins _ b ne, c, f, g.to le fun o e => e⟩
  · exact ins a (S.ads a ha) fun z => h3 (z ▸ ha)
  · rcases get_set hj with ⟨_, z⟩ | ⟨_, z⟩
    · injection z with z; cases z
    · exact S.slf x hx e z k
end L3
namespace L3
open PySem L2
/-- a value that may be kept; a new list (dict) that nothing holds; an own one that is only looked at -/
inductive RD where
  | sh (d : D) | fr (d : D) | bo (d : D)
def RD.d : RD → D
  | .sh d => d
  | .fr d => d
  | .bo d => d
@[simp] theorem RD.d_0  (d : D) : RD.d (RD.sh d) = (d) := rfl
@[simp] theorem RD.d_1  (d : D) : RD.d (RD.fr d) = (d) := rfl
@[simp] theorem RD.d_2  (d : D) : RD.d (RD.bo d) = (d) := rfl
def RD.bor : RD → Prop
  | .bo _ => True
  | _ => False
@[simp] theorem RD.bor_0 (d : D) : RD.bor (RD.bo d) = True := rfl
@[simp] theorem RD.bor_sh (d : D) : RD.bor (.sh d) = False := rfl
@[simp] theorem RD.bor_fr (d : D) : RD.bor (.fr d) = False := rfl
abbrev WE := St3 → (RD → St3 → Prop) → Prop
abbrev WT := St3 → (Bool → St3 → Prop) → Prop
abbrev WA := St3 → (List RD → St3 → Prop) → Prop
structure Ends3 where
  nx : St3 → Prop
  rt : D → Nat → Prop
  bk : St3 → Prop
  ct : St3 → Prop
abbrev WS := Ends3 → St3 → Prop
section
variable {K : PySem.W.Frag} {G : Gx} {H H' H1 H2 H3 : Hp} {v x y : V} {d e : D} {M M' : List Addr} {E : Ent} {am : Nat → Addr} {σ : L2.St} {δ δ' δ1 δ2 δ3 : St3}
/-- readable now -/
def RB (K : PySem.W.Frag) (G : Gx) (M : List Addr) (H : Hp) (v : V) (d : D) : Prop := Rep K G (mask M H) v d ∨ ∃ p, v = .ref p ∧ OwnAt K G M H p d
theorem RB.full (h : RB K G M H v d) : Rep K G H v d := by
  rcases h with h | ⟨p, rfl, h⟩
  · exact h.mono mask_le
  · exact h.rep mask_le fun _ e => e
theorem RB.lst {ds : List D} (h : RB K G M H v (.lst ds)) : ∃ p xs, v = .ref p ∧ H p = some (.lst xs) ∧ RepAll K G (mask M H) xs ds := by
  rcases h with ⟨p, xs, e, q, r⟩ | ⟨p, e, xs, q, r⟩
  · exact ⟨p, xs, e, mask_le _ _ q, r⟩
  · exact ⟨p, xs, e, q, r⟩
theorem RB.tup {ds : List D} (h : RB K G M H v (.tup ds)) : ∃ p xs, v = .ref p ∧ SqT K H p xs ∧ RepAll K G (mask M H) xs ds := by
  rcases h with ⟨p, xs, e, q, r⟩ | ⟨p, e, q⟩
  · exact ⟨p, xs, e, same_t mask_le q, r⟩
  · exact q.elim
theorem RB.dct {ks : List Key} {ds : List D} (h : RB K G M H v (.dct ks ds)) : ∃ p xs, v = .ref p ∧ H p = some (.dK (ks.zip xs)) ∧ ks.length = xs.length ∧ RepAll K G (mask M H) xs ds := by
  rcases h with ⟨p, xs, e, q, l, r⟩ | ⟨p, e, xs, q, l, r⟩
  · exact ⟨p, xs, e, mask_le _ _ q, l, r⟩
  · exact ⟨p, xs, e, q, l, r⟩
theorem RB.int {i : Int} (h : RB K G M H v (.int i)) : v = .int i := h.full
theorem RB.bl {i : Bool} (h : RB K G M H v (.bl i)) : v = .bl i := h.full
theorem RB.str {i : Str} (h : RB K G M H v (.str i)) : v = .str i := h.full
theorem RB.non (h : RB K G M H v .non) : v = .non := h.full
/-- a result that is kept through what follows -/
def RK (K : PySem.W.Frag) (G : Gx) (am : Nat → Addr) (M : List Addr) (δ : St3) (H : Hp) (v : V) : RD → Prop
  | .sh d => Rep K G (mask M H) v d
  | .fr d => Rep K G (mask M H) v d
  | .bo d => ∃ i : Nat, δ.sl[i]? = some (some (SV.ow d)) ∧ v = .ref (am i)
def RV (K : PySem.W.Frag) (G : Gx) (E : Ent) (am : Nat → Addr) (M : List Addr) (σ : L2.St) (δ : St3) (H : Hp) (v : V) : RD → Prop
  | .sh d => Rep K G (mask M H) v d
  | .fr d => ∃ p, v = .ref p ∧ p ∉ M ∧ E.H0 p = none ∧ OwnAt K G (p :: M) H p d ∧ SR K G E am (p :: M) σ δ H
  | .bo d => ∃ i : Nat, δ.sl[i]? = some (some (SV.ow d)) ∧ v = .ref (am i)
theorem RV.k {r : RD} (h : RV K G E am M σ δ H v r) : RK K G am M δ H v r := by
  cases r with
  | sh d => exact h
  | fr d =>
    obtain ⟨p, rfl, hp, _, o, _⟩ := h
    exact o.rep (mask_sub fun a h => List.mem_cons_of_mem _ h) fun o e => by rw [mask_out hp]; exact e
  | bo d => exact h
theorem RK.rb {r : RD} (S : SR K G E am M σ δ H) (h : RK K G am M δ H v r) : RB K G M H v r.d := by
  cases r with
  | sh d => exact .inl h
  | fr d => exact .inl h
  | bo d => obtain ⟨i, h1, rfl⟩ := h; exact .inr ⟨_, rfl, (S.ow i d h1).2.2.2.2⟩
theorem RK.rep {r : RD} (h : RK K G am M δ H v r) (k : ¬ r.bor) : Rep K G (mask M H) v r.d := by
  cases r with
  | sh d => exact h
  | fr d => exact h
  | bo d => exact (k trivial).elim
theorem RK.later {r : RD} (S : SR K G E am M σ δ1 H1) (h : RK K G am M δ1 H1 v r) (e : Ext G am δ1 H1 H2) (k : r.bor → δ2.sl = δ1.sl) : RK K G am M δ2 H2 v r := by
  cases r with
  | sh d => exact Rep.mono (S.mask e) d h
  | fr d => exact Rep.mono (S.mask e) d h
  | bo d => obtain ⟨i, h1, e1⟩ := h; exact ⟨i, by rw [k trivial]; exact h1, e1⟩
/-- a new value, by an operation that only lays new things -/
def RN (K : PySem.W.Frag) (G : Gx) (M : List Addr) (H H' : Hp) (v : V) : RD → Prop
  | .sh d => Rep K G (mask M H') v d
  | .fr d => ∃ p, v = .ref p ∧ H p = none ∧ OwnAt K G (p :: M) H' p d
  | .bo _ => False
theorem RN.rv {r : RD} (S : SR K G E am M σ δ H) (e : Same H H') (h : RN K G M H H' v r) : RV K G E am M σ δ H' v r := by
  cases r with
  | sh d => exact h
  | bo d => exact h.elim
  | fr d =>
    obtain ⟨p, rfl, hp, o⟩ := h
    refine ⟨p, rfl, fun z => S.al p z hp, ?_, o, S.more hp e o.al⟩
    cases q : E.H0 p with
    | none => rfl
    | some u =>
      by_cases k : p ∈ G.dk
      · exact (S.al p (S.ads p (S.dks p k)) hp).elim
      · rw [S.base p u q k] at hp; cases hp
end

def SimE (K : PySem.W.Frag) (G : Gx) (E : Ent) (te : TE) (w : WE) : Prop := ∀ (am : Nat → Addr) (M : List Addr) (σ : L2.St) (δ : St3) (H : Hp), SR K G E am M σ δ H → ∀ Qd : RD → St3 → Prop, w δ Qd → ∀ Q : VK,
  (∀ (v : V) (r : RD) (δ' : St3) (H' : Hp), SR K G E am M σ δ' H' → Ext G am δ H H' → (∀ i, isOwn δ' i → isOwn δ i) → RV K G E am M σ δ' H' v r → Qd r δ' → Q v H') → te σ H Q
def SimT (K : PySem.W.Frag) (G : Gx) (E : Ent) (tt : TT) (w : WT) : Prop := ∀ (am : Nat → Addr) (M : List Addr) (σ : L2.St) (δ : St3) (H : Hp), SR K G E am M σ δ H → ∀ Qd : Bool → St3 → Prop, w δ Qd → ∀ Q : Bool → Hp → Prop,
  (∀ (b : Bool) (δ' : St3) (H' : Hp), SR K G E am M σ δ' H' → Ext G am δ H H' → (∀ i, isOwn δ' i → isOwn δ i) → Qd b δ' → Q b H') → tt σ H Q
inductive RKs (K : PySem.W.Frag) (G : Gx) (am : Nat → Addr) (M : List Addr) (δ : St3) (H : Hp) : List V → List RD → Prop
  | nil : RKs K G am M δ H [] []
  | cons {v : V} {vs : List V} {r : RD} {rs : List RD} : RK K G am M δ H v r → RKs K G am M δ H vs rs → RKs K G am M δ H (v :: vs) (r :: rs)
def SimA (K : PySem.W.Frag) (G : Gx) (E : Ent) (ta : TA) (w : WA) : Prop := ∀ (am : Nat → Addr) (M : List Addr) (σ : L2.St) (δ : St3) (H : Hp), SR K G E am M σ δ H → ∀ Qd : List RD → St3 → Prop, w δ Qd → ∀ Q : List V → Hp → Prop,
  (∀ (vs : List V) (rs : List RD) (δ' : St3) (H' : Hp), SR K G E am M σ δ' H' → Ext G am δ H H' → (∀ i, isOwn δ' i → isOwn δ i) → RKs K G am M δ' H' vs rs → Qd rs δ' → Q vs H') → ta σ H Q
structure EndsR (K : PySem.W.Frag) (G : Gx) (E : Ent) (D3 : Ends3) (De : L2.Ends) : Prop where
  nx : ∀ (am : Nat → Addr) (M : List Addr) (σ : L2.St) (δ : St3) (H : Hp), SR K G E am M σ δ H → D3.nx δ → De.nx σ H
  bk : ∀ (am : Nat → Addr) (M : List Addr) (σ : L2.St) (δ : St3) (H : Hp), SR K G E am M σ δ H → D3.bk δ → De.bk σ H
  ct : ∀ (am : Nat → Addr) (M : List Addr) (σ : L2.St) (δ : St3) (H : Hp), SR K G E am M σ δ H → D3.ct δ → De.ct σ H
  rt : ∀ (v : V) (d : D) (n : Nat) (H : Hp), Rep K G (mask E.ads H) v d → (∀ b o, E.H0 b = some o → b ∉ G.dk → H b = some o) → G.DI n H → D3.rt d n → De.rt v H
def SimS (K : PySem.W.Frag) (G : Gx) (ts : TS) (w : WS) : Prop := ∀ (E : Ent) (am : Nat → Addr) (M : List Addr) (σ : L2.St) (δ : St3) (H : Hp), SR K G E am M σ δ H → ∀ D3 : Ends3, w D3 δ → ∀ De : L2.Ends, EndsR K G E D3 De → ts De σ H
structure DE (X : Cx) (G : Gx) (e : Expr) (te : TE) (w : WE) : Prop where
  pe : PE X e te
  sim : ∀ E, SimE X.K G E te w
structure DT (X : Cx) (G : Gx) (e : Expr) (tt : TT) (w : WT) : Prop where
  pt : PT X e tt
  sim : ∀ E, SimT X.K G E tt w
structure DW (X : Cx) (G : Gx) (e : Expr) (tt : TT) (w : WT) : Prop where
  pw : PW X e tt
  sim : ∀ E, SimT X.K G E tt w
structure DA (X : Cx) (G : Gx) (es : List Expr) (ta : TA) (w : WA) : Prop where
  pa : PA X es ta
  sim : ∀ E, SimA X.K G E ta w
structure DS (X : Cx) (G : Gx) (st : Stmt) (ts : TS) (w : WS) : Prop where
  ps : PS X st ts
  sim : SimS X.K G ts w
structure DSs (X : Cx) (G : Gx) (st : List Stmt) (ts : TS) (w : WS) : Prop where
  ps : PSs X st ts
  sim : SimS X.K G ts w

def svRD : SV → RD
  | .sh d => .sh d
  | .ow d => .bo d
@[simp] theorem svRD_0  (d : D) : svRD (.sh d) = (.sh d) := rfl
@[simp] theorem svRD_1  (d : D) : svRD (.ow d) = (.bo d) := rfl
@[simp] def wVar (i : Nat) : WE := fun δ Q => ∃ s, δ.sl[i]? = some (some s) ∧ Q (svRD s) δ
@[simp] def wC (d : D) : WE := fun δ Q => Q (.sh d) δ
section
variable {X : Cx} {G : Gx} {K : PySem.W.Frag} {E : Ent}
theorem sim_var {i : Nat} : SimE K G E (tVar i) (wVar i) := fun am M σ δ H S Qd h Q k => by
  obtain ⟨s, hs, h⟩ := h
  cases s with
  | sh d =>
    obtain ⟨v, e, r⟩ := S.sh i d hs
    exact ⟨v, e, k v (.sh d) δ H S .refl (fun _ z => z) r h⟩
  | ow d =>
    have e := (S.ow i d hs).1
    exact ⟨_, e, k _ (.bo d) δ H S .refl (fun _ z => z) ⟨i, hs, rfl⟩ h⟩
theorem de_var (i : Nat) {x : Str} {pos : Pos} (hN : X.N[i]? = some x := by rfl) (hv : Vis X.env.scope x := by first | exact Or.inl rfl | exact Or.inr (Or.inl rfl) | exact Or.inr (Or.inr rfl)) (hd : (x == ("__debug__" : Str)) = false := by decide)
    (hcd : (x == ("__classdict__" : Str)) = false := by decide) : DE X G (.Name x pos) (tVar i) (wVar i) := ⟨pe_var hN hv hd hcd, fun _ => sim_var⟩
theorem sim_c {v : V} {d : D} (h : ∀ H, Rep K G H v d) : SimE K G E (tC v) (wC d) := fun am M σ δ H S Qd q Q k => k v (.sh d) δ H S .refl (fun _ z => z) (h _) q
theorem de_int {i j pos} : DE X G (.Constant (.int i) j pos) (tC (.int i)) (wC (.int i)) := ⟨pe_int, fun _ => sim_c fun _ => rfl⟩
theorem de_bl {b j pos} : DE X G (.Constant (.bool b) j pos) (tC (.bl b)) (wC (.bl b)) := ⟨pe_bl, fun _ => sim_c fun _ => rfl⟩
theorem de_non {j pos} : DE X G (.Constant .none j pos) (tC .non) (wC .non) := ⟨pe_non, fun _ => sim_c fun _ => rfl⟩
theorem de_str {x j pos} : DE X G (.Constant (.str x) j pos) (tC (.str x)) (wC (.str x)) := ⟨pe_str, fun _ => sim_c fun _ => rfl⟩
end

abbrev F2 := D → D → (RD → Prop) → Prop
def OpS (K : PySem.W.Frag) (G : Gx) (r : R2) (f : F2) : Prop := ∀ (M : List Addr) (H : Hp) (x y : V) (d e : D), (∀ a ∈ M, H a ≠ none) → RB K G M H x d → RB K G M H y e → ∀ Qd : RD → Prop, f d e Qd → ∀ Q : VK,
  (∀ v q H', Same H H' → RN K G M H H' v q → Qd q → Q v H') → r x y H Q
@[simp] def wOp (f : F2) (a b : WE) : WE := fun δ Q => a δ fun x δ1 => b δ1 fun y δ2 => (x.bor → δ2.sl = δ1.sl) ∧ f x.d y.d fun q => Q q δ2
section
variable {X : Cx} {G : Gx} {K : PySem.W.Frag} {E : Ent} {a b c : Expr} {ta tb tc : TE} {wa wb wc : WE} {pos : Pos} {r r' : R2} {f f' : F2}
theorem sim_op (hs : OpS K G r f) (ha : SimE K G E ta wa) (hb : SimE K G E tb wb) : SimE K G E (tOp r ta tb) (wOp f wa wb) := fun am M σ δ H S Qd h Q k => by
  refine ha am M σ δ H S _ h _ fun x rx δ1 H1 S1 e1 o1 v1 h => ?_
  refine hb am M σ δ1 H1 S1 _ h _ fun y ry δ2 H2 S2 e2 o2 v2 h => ?_
  obtain ⟨st, h⟩ := h
  have bx := (v1.k.later S1 e2 st).rb S2
  refine hs M H2 x y _ _ S2.al bx (v2.k.rb S2) _ h _ fun v q H3 sm rn hq => ?_
  exact k v q δ2 H3 (S2.grow sm) ((e1.trans o1 e2).trans (fun i z => o1 i (o2 i z)) (Ext.of (δ := δ2) sm)) (fun i z => o1 i (o2 i z)) (rn.rv S2 sm) hq
theorem de_op {op : Operator} (ho : OpR X (binaryOp op) r) (hs : OpS X.K G r f) (ha : DE X G a ta wa) (hb : DE X G b tb wb) : DE X G (.BinOp a op b pos) (tOp r ta tb) (wOp f wa wb) := ⟨pe_op ho ha.pe hb.pe, fun E => sim_op hs (ha.sim E) (hb.sim E)⟩
theorem de_cmp {op : CmpOp} (ho : OpR X (compareOp op) r) (hs : OpS X.K G r f) (ha : DE X G a ta wa) (hb : DE X G b tb wb) (hm : behindInMarks op b = false := by first | exact nomark _ | rfl) : DE X G (.Compare a [op] [b] pos) (tOp r ta tb) (wOp f wa wb) :=
  ⟨pe_cmpR ho ha.pe hb.pe hm, fun E => sim_op hs (ha.sim E) (hb.sim E)⟩
def wTest (w : WE) : WT := fun δ Q => w δ fun r δ1 => ∃ k, r.d = .bl k ∧ Q k δ1
theorem rv_bl {am : Nat → Addr} {M : List Addr} {σ : L2.St} {δ : St3} {H : Hp} {v : V} {q : RD} {k : Bool} (S : SR K G E am M σ δ H) (h : RV K G E am M σ δ H v q) (e : q.d = .bl k) : v = .bl k := by
  have := h.k.rb S
  rw [e] at this
  exact this.bl
theorem sim_test {te : TE} {w : WE} (h : SimE K G E te w) : SimT K G E (tTest te) (wTest w) := fun am M σ δ H S Qd q Q k =>
  h am M σ δ H S _ q _ fun v r δ' H' S' e o rv ⟨b, e1, hq⟩ => ⟨b, rv_bl S' rv e1, k b δ' H' S' e o hq⟩
theorem dt_cmp {op : CmpOp} (ho : OpR X (compareOp op) r) (hs : OpS X.K G r f) (ha : DE X G a ta wa) (hb : DE X G b tb wb) (hm : behindInMarks op b = false := by first | exact nomark _ | rfl) : DT X G (.Compare a [op] [b] pos) (tTest (tOp r ta tb)) (wTest (wOp f wa wb)) :=
  ⟨pt_cmpR ho ha.pe hb.pe hm, fun E => sim_test (sim_op hs (ha.sim E) (hb.sim E))⟩
theorem dt_val {e : Expr} {t : TE} {w : WE} (h : DE X G e t w) (he : ∀ whole, isTrue e X.env whole = (do let v ← whole; standAt e.pos; holding [v] (truthy v)) := by intro _; rfl) : DT X G e (tB t) (wTest w) := ⟨pt_val h.pe he, fun E => sim_test (h.sim E)⟩
/-- a < b < c -/
def wChain (f f' : F2) (a b c : WE) : WE := fun δ Q => a δ fun x δ1 => b δ1 fun y δ2 => (x.bor → δ2.sl = δ1.sl) ∧ f x.d y.d fun q => ∃ k, q.d = .bl k ∧ (k = true → c δ2 fun z δ3 => (y.bor → δ3.sl = δ2.sl) ∧ f' y.d z.d fun q' => Q q' δ3) ∧ (k = false → Q (.sh (.bl false)) δ2)
theorem sim_chain (hs : OpS K G r f) (hs' : OpS K G r' f') (ha : SimE K G E ta wa) (hb : SimE K G E tb wb) (hc : SimE K G E tc wc) : SimE K G E (tChain r r' ta tb tc) (wChain f f' wa wb wc) := fun am M σ δ H S Qd h Q k => by
  refine ha am M σ δ H S _ h _ fun x rx δ1 H1 S1 e1 o1 v1 h => ?_
  refine hb am M σ δ1 H1 S1 _ h _ fun y ry δ2 H2 S2 e2 o2 v2 h => ?_
  obtain ⟨st, h⟩ := h
  refine hs M H2 x y _ _ S2.al ((v1.k.later S1 e2 st).rb S2) (v2.k.rb S2) _ h _ fun v q H3 sm rn hq => ?_
  obtain ⟨b, e, hq⟩ := hq
  have S3 := S2.grow sm
  have ee : Ext G am δ H H3 := (e1.trans o1 e2).trans (fun i z => o1 i (o2 i z)) (Ext.of (δ := δ2) sm)
  have oo : ∀ i, isOwn δ2 i → isOwn δ i := fun i z => o1 i (o2 i z)
  refine ⟨b, rv_bl S3 (rn.rv S2 sm) e, ?_⟩
  cases b with
  | false =>
    rw [if_neg Bool.false_ne_true]
    exact k _ (.sh (.bl false)) δ2 H3 S3 ee oo rfl (hq.2 rfl)
  | true =>
    rw [if_pos rfl]
    refine hc am M σ δ2 H3 S3 _ (hq.1 rfl) _ fun z rz δ3 H4 S4 e4 o4 v4 h => ?_
    obtain ⟨st', h⟩ := h
    have vy : RK K G am M δ2 H3 y ry := v2.k.later S2 (Ext.of sm) fun _ => rfl
    refine hs' M H4 y z _ _ S4.al ((vy.later S3 e4 st').rb S4) (v4.k.rb S4) _ h _ fun v q H5 sm5 rn5 hq5 => ?_
    exact k v q δ3 H5 (S4.grow sm5) ((ee.trans oo e4).trans (fun i z => oo i (o4 i z)) (Ext.of (δ := δ3) sm5)) (fun i z => oo i (o4 i z)) (rn5.rv S4 sm5) hq5
theorem de_chain {op op' : CmpOp} (ho : OpR X (compareOp op) r) (hs : OpS X.K G r f) (ho' : OpR X (compareOp op') r') (hs' : OpS X.K G r' f') (ha : DE X G a ta wa) (hb : DE X G b tb wb) (hc : DE X G c tc wc)
    (hm : lastMarks [op, op'] [b, c] = false := by with_unfolding_all rfl) : DE X G (.Compare a [op, op'] [b, c] pos) (tChain r r' ta tb tc) (wChain f f' wa wb wc) := ⟨pe_chain ho ho' ha.pe hb.pe hc.pe hm, fun E => sim_chain hs hs' (ha.sim E) (hb.sim E) (hc.sim E)⟩
theorem dt_chain {op op' : CmpOp} (ho : OpR X (compareOp op) r) (hs : OpS X.K G r f) (ho' : OpR X (compareOp op') r') (hs' : OpS X.K G r' f') (ha : DE X G a ta wa) (hb : DE X G b tb wb) (hc : DE X G c tc wc)
    (hm : lastMarks [op, op'] [b, c] = false := by with_unfolding_all rfl) : DT X G (.Compare a [op, op'] [b, c] pos) (tTest (tChain r r' ta tb tc)) (wTest (wChain f f' wa wb wc)) := ⟨pt_chain ho ho' ha.pe hb.pe hc.pe hm, fun E => sim_test (sim_chain hs hs' (ha.sim E) (hb.sim E) (hc.sim E))⟩

abbrev F1 := D → (RD → Prop) → Prop
def UnS (K : PySem.W.Frag) (G : Gx) (r : V → Hp → VK → Prop) (f : F1) : Prop := ∀ (M : List Addr) (H : Hp) (x : V) (d : D), (∀ a ∈ M, H a ≠ none) → RB K G M H x d → ∀ Qd : RD → Prop, f d Qd → ∀ Q : VK,
  (∀ v q H', Same H H' → RN K G M H H' v q → Qd q → Q v H') → r x H Q
@[simp] def wUn (f : F1) (a : WE) : WE := fun δ Q => a δ fun x δ1 => f x.d fun q => Q q δ1
theorem sim_un {ru : V → Hp → VK → Prop} {fu : F1} (hs : UnS K G ru fu) (ha : SimE K G E ta wa) : SimE K G E (tUn ru ta) (wUn fu wa) := fun am M σ δ H S Qd h Q k => by
  refine ha am M σ δ H S _ h _ fun x rx δ1 H1 S1 e1 o1 v1 h => ?_
  exact hs M H1 x _ S1.al (v1.k.rb S1) _ h _ fun v q H3 sm rn hq => k v q δ1 H3 (S1.grow sm) (e1.trans o1 (Ext.of (δ := δ1) sm)) o1 (rn.rv S1 sm) hq
theorem de_un {op : UnaryOp} {ru : V → Hp → VK → Prop} {fu : F1} (ho : UnR X (unaryOp op) ru) (hs : UnS X.K G ru fu) (ha : DE X G a ta wa) : DE X G (.UnaryOp op a pos) (tUn ru ta) (wUn fu wa) := ⟨pe_un ho ha.pe, fun E => sim_un hs (ha.sim E)⟩
variable {t u : TT} {wt wu : WT} {rest : List Expr}
@[simp] def wAnd (t u : WT) : WT := fun δ Q => t δ fun b δ1 => (b = true → u δ1 Q) ∧ (b = false → Q false δ1)
@[simp] def wOr (t u : WT) : WT := fun δ Q => t δ fun b δ1 => (b = false → u δ1 Q) ∧ (b = true → Q true δ1)
@[simp] def wNot (t : WT) : WT := fun δ Q => t δ fun b δ1 => Q (!b) δ1
theorem sim_and (h1 : SimT K G E t wt) (h2 : SimT K G E u wu) : SimT K G E (tAnd t u) (wAnd wt wu) := fun am M σ δ H S Qd h Q k => by
  refine h1 am M σ δ H S _ h _ fun b δ1 H1 S1 e1 o1 h => ?_
  cases b with
  | true =>
    rw [if_pos rfl]
    exact h2 am M σ δ1 H1 S1 _ (h.1 rfl) _ fun b δ2 H2 S2 e2 o2 h => k b δ2 H2 S2 (e1.trans o1 e2) (fun i z => o1 i (o2 i z)) h
  | false =>
    rw [if_neg Bool.false_ne_true]
    exact k _ δ1 H1 S1 e1 o1 (h.2 rfl)
theorem sim_or (h1 : SimT K G E t wt) (h2 : SimT K G E u wu) : SimT K G E (tOr t u) (wOr wt wu) := fun am M σ δ H S Qd h Q k => by
  refine h1 am M σ δ H S _ h _ fun b δ1 H1 S1 e1 o1 h => ?_
  cases b with
  | false =>
    rw [if_neg Bool.false_ne_true]
    exact h2 am M σ δ1 H1 S1 _ (h.1 rfl) _ fun b δ2 H2 S2 e2 o2 h => k b δ2 H2 S2 (e1.trans o1 e2) (fun i z => o1 i (o2 i z)) h
  | true =>
    rw [if_pos rfl]
    exact k _ δ1 H1 S1 e1 o1 (h.2 rfl)
theorem sim_not (h1 : SimT K G E t wt) : SimT K G E (tNot t) (wNot wt) := fun am M σ δ H S Qd h Q k =>
  h1 am M σ δ H S _ h _ fun b δ1 H1 S1 e1 o1 h => k _ δ1 H1 S1 e1 o1 h
theorem dw_and1 (ha : DT X G a t wt) : DW X G (.BoolOp .And [a] pos) t wt := ⟨pw_and1 ha.pt, ha.sim⟩
theorem dw_or1 (ha : DT X G a t wt) : DW X G (.BoolOp .Or [a] pos) t wt := ⟨pw_or1 ha.pt, ha.sim⟩
theorem dw_and (ha : DT X G a t wt) (hb : DW X G (.BoolOp .And (b :: rest) pos) u wu) : DW X G (.BoolOp .And (a :: b :: rest) pos) (tAnd t u) (wAnd wt wu) := ⟨pw_and ha.pt hb.pw, fun E => sim_and (ha.sim E) (hb.sim E)⟩
theorem dw_or (ha : DT X G a t wt) (hb : DW X G (.BoolOp .Or (b :: rest) pos) u wu) : DW X G (.BoolOp .Or (a :: b :: rest) pos) (tOr t u) (wOr wt wu) := ⟨pw_or ha.pt hb.pw, fun E => sim_or (ha.sim E) (hb.sim E)⟩
theorem DW.dt {e : Expr} (h : DW X G e t wt) : DT X G e t wt := ⟨h.pw.pt, h.sim⟩
theorem dt_not (ha : DT X G a t wt) : DT X G (.UnaryOp .Not a pos) (tNot t) (wNot wt) := ⟨pt_not ha.pt, fun E => sim_not (ha.sim E)⟩
/-- as values -/
def wAndV (a b : WE) : WE := fun δ Q => a δ fun x δ1 => ∃ k, x.d = .bl k ∧ (k = true → b δ1 Q) ∧ (k = false → Q (.sh (.bl false)) δ1)
def wOrV (a b : WE) : WE := fun δ Q => a δ fun x δ1 => ∃ k, x.d = .bl k ∧ (k = false → b δ1 Q) ∧ (k = true → Q (.sh (.bl true)) δ1)
def wNotV (a : WE) : WE := fun δ Q => a δ fun x δ1 => ∃ k, x.d = .bl k ∧ Q (.sh (.bl (!k))) δ1
theorem RV.weak {am : Nat → Addr} {M : List Addr} {σ : L2.St} {δ : St3} {H : Hp} {v : V} {q : RD} (h : RV K G E am M σ δ H v q) : RV K G E am M σ δ H v q := h
theorem sim_andV (ha : SimE K G E ta wa) (hb : SimE K G E tb wb) : SimE K G E (tAndV ta tb) (wAndV wa wb) := fun am M σ δ H S Qd h Q k => by
  refine ha am M σ δ H S _ h _ fun x rx δ1 H1 S1 e1 o1 v1 ⟨b, eb, h⟩ => ⟨b, rv_bl S1 v1 eb, ?_⟩
  cases b with
  | true =>
    rw [if_pos rfl]
    exact hb am M σ δ1 H1 S1 _ (h.1 rfl) _ fun v r δ2 H2 S2 e2 o2 v2 h => k v r δ2 H2 S2 (e1.trans o1 e2) (fun i z => o1 i (o2 i z)) v2 h
  | false =>
    rw [if_neg Bool.false_ne_true]
    exact k _ (.sh (.bl false)) δ1 H1 S1 e1 o1 rfl (h.2 rfl)
theorem sim_orV (ha : SimE K G E ta wa) (hb : SimE K G E tb wb) : SimE K G E (tOrV ta tb) (wOrV wa wb) := fun am M σ δ H S Qd h Q k => by
  refine ha am M σ δ H S _ h _ fun x rx δ1 H1 S1 e1 o1 v1 ⟨b, eb, h⟩ => ⟨b, rv_bl S1 v1 eb, ?_⟩
  cases b with
  | false =>
    rw [if_neg Bool.false_ne_true]
    exact hb am M σ δ1 H1 S1 _ (h.1 rfl) _ fun v r δ2 H2 S2 e2 o2 v2 h => k v r δ2 H2 S2 (e1.trans o1 e2) (fun i z => o1 i (o2 i z)) v2 h
  | true =>
    rw [if_pos rfl]
    exact k _ (.sh (.bl true)) δ1 H1 S1 e1 o1 rfl (h.2 rfl)
theorem sim_notV (ha : SimE K G E ta wa) : SimE K G E (tNotV ta) (wNotV wa) := fun am M σ δ H S Qd h Q k =>
  ha am M σ δ H S _ h _ fun x rx δ1 H1 S1 e1 o1 v1 ⟨b, eb, h⟩ => ⟨b, rv_bl S1 v1 eb, k _ (.sh (.bl (!b))) δ1 H1 S1 e1 o1 rfl h⟩
theorem de_one {op} (h : DE X G a ta wa) : DE X G (.BoolOp op [a] pos) ta wa := ⟨pe_one h.pe, h.sim⟩
theorem de_and (ha : DE X G a ta wa) (hb : DE X G (.BoolOp .And (b :: rest) pos) tb wb) : DE X G (.BoolOp .And (a :: b :: rest) pos) (tAndV ta tb) (wAndV wa wb) := ⟨pe_and ha.pe hb.pe, fun E => sim_andV (ha.sim E) (hb.sim E)⟩
theorem de_or (ha : DE X G a ta wa) (hb : DE X G (.BoolOp .Or (b :: rest) pos) tb wb) : DE X G (.BoolOp .Or (a :: b :: rest) pos) (tOrV ta tb) (wOrV wa wb) := ⟨pe_or ha.pe hb.pe, fun E => sim_orV (ha.sim E) (hb.sim E)⟩
theorem de_not (ha : DE X G a ta wa) : DE X G (.UnaryOp .Not a pos) (tNotV ta) (wNotV wa) := ⟨pe_not ha.pe, fun E => sim_notV (ha.sim E)⟩
@[simp] def wIf (t : WT) (a b : WE) : WE := fun δ Q => t δ fun k δ1 => (k = true → a δ1 Q) ∧ (k = false → b δ1 Q)
theorem sim_if (ht : SimT K G E t wt) (ha : SimE K G E ta wa) (hb : SimE K G E tb wb) : SimE K G E (tIf t ta tb) (wIf wt wa wb) := fun am M σ δ H S Qd h Q k => by
  refine ht am M σ δ H S _ h _ fun b δ1 H1 S1 e1 o1 h => ?_
  cases b with
  | true =>
    rw [if_pos rfl]
    exact ha am M σ δ1 H1 S1 _ (h.1 rfl) _ fun v r δ2 H2 S2 e2 o2 v2 h => k v r δ2 H2 S2 (e1.trans o1 e2) (fun i z => o1 i (o2 i z)) v2 h
  | false =>
    rw [if_neg Bool.false_ne_true]
    exact hb am M σ δ1 H1 S1 _ (h.2 rfl) _ fun v r δ2 H2 S2 e2 o2 v2 h => k v r δ2 H2 S2 (e1.trans o1 e2) (fun i z => o1 i (o2 i z)) v2 h
theorem de_if (hc : DT X G c t wt) (ha : DE X G a ta wa) (hb : DE X G b tb wb) : DE X G (.IfExp c a b pos) (tIf t ta tb) (wIf wt wa wb) := ⟨pe_ifExp hc.pt ha.pe hb.pe, fun E => sim_if (hc.sim E) (ha.sim E) (hb.sim E)⟩

@[simp] def wNil : WA := fun δ Q => Q [] δ
@[simp] def wCons (a : WE) (t : WA) : WA := fun δ Q => a δ fun x δ1 => t δ1 fun xs δ2 => (x.bor → δ2.sl = δ1.sl) ∧ Q (x :: xs) δ2
variable {es : List Expr} {tA : TA} {wA : WA}
theorem sim_nil : SimA K G E tNil wNil := fun am M σ δ H S Qd h Q k => k [] [] δ H S .refl (fun _ z => z) .nil h
theorem sim_cons (ha : SimE K G E ta wa) (hr : SimA K G E tA wA) : SimA K G E (tCons ta tA) (wCons wa wA) := fun am M σ δ H S Qd h Q k => by
  refine ha am M σ δ H S _ h _ fun x rx δ1 H1 S1 e1 o1 v1 h => ?_
  refine hr am M σ δ1 H1 S1 _ h _ fun xs rs δ2 H2 S2 e2 o2 v2 ⟨st, h⟩ => ?_
  exact k _ _ δ2 H2 S2 (e1.trans o1 e2) (fun i z => o1 i (o2 i z)) (.cons (v1.k.later S1 e2 st) v2) h
theorem da_nil : DA X G [] tNil wNil := ⟨pa_nil, fun _ => sim_nil⟩
theorem da_cons (ha : DE X G a ta wa) (hr : DA X G es tA wA) (hs : starEach (a :: es) X.env = (false, eval a X.env) :: starEach es X.env := by rfl) : DA X G (a :: es) (tCons ta tA) (wCons wa wA) := ⟨pa_cons ha.pe hr.pa hs, fun E => sim_cons (ha.sim E) (hr.sim E)⟩
/-- all may be kept -/
@[simp] def keeps : List RD → Prop
  | [] => True
  | r :: rs => ¬ r.bor ∧ keeps rs
theorem RKs.rep {am : Nat → Addr} {M : List Addr} {δ : St3} {H : Hp} : ∀ {vs : List V} {rs : List RD}, RKs K G am M δ H vs rs → keeps rs → RepAll K G (mask M H) vs (rs.map RD.d)
  | _, _, .nil, _ => rfl
  | _, _, .cons h t, ⟨k, ks⟩ => ⟨_, _, rfl, h.rep k, t.rep ks⟩
theorem RKs.length {am : Nat → Addr} {M : List Addr} {δ : St3} {H : Hp} : ∀ {vs : List V} {rs : List RD}, RKs K G am M δ H vs rs → vs.length = rs.length
  | _, _, .nil => rfl
  | _, _, .cons _ t => congrArg Nat.succ t.length
inductive RBs (K : PySem.W.Frag) (G : Gx) (M : List Addr) (H : Hp) : List V → List D → Prop
  | nil : RBs K G M H [] []
  | cons {v : V} {vs : List V} {d : D} {ds : List D} : RB K G M H v d → RBs K G M H vs ds → RBs K G M H (v :: vs) (d :: ds)
theorem RKs.rbs {am : Nat → Addr} {M : List Addr} {σ : L2.St} {δ : St3} {H : Hp} (S : SR K G E am M σ δ H) : ∀ {vs : List V} {rs : List RD}, RKs K G am M δ H vs rs → RBs K G M H vs (rs.map RD.d)
  | _, _, .nil => .nil
  | _, _, .cons h t => .cons (h.rb S) (t.rbs S)
@[simp] def wTup (t : WA) : WE := fun δ Q => t δ fun rs δ1 => keeps rs ∧ rs.length ≤ 1000 ∧ Q (.sh (.tup (rs.map RD.d))) δ1
@[simp] def wLst (t : WA) : WE := fun δ Q => t δ fun rs δ1 => keeps rs ∧ rs.length ≤ 1000 ∧ Q (.fr (.lst (rs.map RD.d))) δ1
theorem sz1000 {n : Nat} (h : n ≤ 1000) : n ≤ sizeLine := Nat.le_of_lt (small1000 h)
theorem same_new {H : Hp} {p : Addr} {o : HO} (h : H p = none) : Same H (upd H p o) := fun b x e => by
  rw [upd_ne (ne_of_none e h)]; exact e
theorem sim_tup (h : SimA K G E tA wA) : SimE K G E (tTup tA) (wTup wA) := fun am M σ δ H S Qd q Q k => by
  refine h am M σ δ H S _ q _ fun vs rs δ1 H1 S1 e1 o1 r1 ⟨hk, hl, hq⟩ => ⟨sz1000 (by rw [r1.length]; exact hl), fun p hp => ?_⟩
  have sm := same_new (o := .tup vs) hp
  refine k _ (.sh (.tup (rs.map RD.d))) δ1 _ (S1.grow sm) (e1.trans o1 (Ext.of (δ := δ1) sm)) o1 ⟨p, vs, rfl, SqT.of ?_, (r1.rep hk).mono (mask_mono sm)⟩ hq
  rw [mask_out fun z => S1.al p z hp, upd_same]
theorem sim_lst (h : SimA K G E tA wA) : SimE K G E (tLst tA) (wLst wA) := fun am M σ δ H S Qd q Q k => by
  refine h am M σ δ H S _ q _ fun vs rs δ1 H1 S1 e1 o1 r1 ⟨hk, hl, hq⟩ => ⟨sz1000 (by rw [r1.length]; exact hl), fun p hp => ?_⟩
  have sm := same_new (o := .lst vs) hp
  exact k _ (.fr (.lst (rs.map RD.d))) δ1 _ (S1.grow sm) (e1.trans o1 (Ext.of (δ := δ1) sm)) o1 (RN.rv (r := .fr (.lst (rs.map RD.d))) S1 sm ⟨p, rfl, hp, vs, upd_same, (r1.rep hk).mono (mask_new hp sm)⟩) hq
theorem de_tup {x1} (h : DA X G es tA wA) : DE X G (.Tuple es x1 pos) (tTup tA) (wTup wA) := ⟨pe_tup h.pa, fun E => sim_tup (h.sim E)⟩
theorem de_lst (h : DA X G es tA wA) : DE X G (.List es pos) (tLst tA) (wLst wA) := ⟨pe_lst h.pa, fun E => sim_lst (h.sim E)⟩

abbrev FC := List D → (RD → Prop) → Prop
def CallS (K : PySem.W.Frag) (G : Gx) (r : List V → Hp → VK → Prop) (f : FC) : Prop := ∀ (M : List Addr) (H : Hp) (vs : List V) (ds : List D), (∀ a ∈ M, H a ≠ none) → RBs K G M H vs ds → ∀ Qd : RD → Prop, f ds Qd → ∀ Q : VK,
  (∀ v q H', Same H H' → RN K G M H H' v q → Qd q → Q v H') → r vs H Q
@[simp] def wCB (f : FC) (t : WA) : WE := fun δ Q => t δ fun rs δ1 => f (rs.map RD.d) fun q => Q q δ1
theorem sim_cb {rc : List V → Hp → VK → Prop} {fc : FC} (hs : CallS K G rc fc) (h : SimA K G E tA wA) : SimE K G E (tCB rc tA) (wCB fc wA) := fun am M σ δ H S Qd q Q k => by
  refine h am M σ δ H S _ q _ fun vs rs δ1 H1 S1 e1 o1 r1 hq => ?_
  exact hs M H1 vs _ S1.al (r1.rbs S1) _ hq _ fun v q H3 sm rn hq => k v q δ1 H3 (S1.grow sm) (e1.trans o1 (Ext.of (δ := δ1) sm)) o1 (rn.rv S1 sm) hq
theorem de_callB {id : String} {x : Str} {p : Pos} {rc : List V → Hp → VK → Prop} {fc : FC} (hc : CallR X (.builtin id) rc) (hs : CallS X.K G rc fc) (hg : Gl X x) (hm : X.mg x = none) (hv : bootBuiltins x = some (.builtin id)) (ha : DA X G (a :: es) tA wA) (hn : x ≠ "__name__" := by decide) (hdb : (x == ("__debug__" : Str)) = false := by decide)
    (he : starEach (a :: es) X.env = (false, eval a X.env) :: starEach es X.env := by rfl) (hpl : (backTo pos (starEach es X.env)).any (·.1) = false := by rfl) : DE X G (.Call (.Name x p) (a :: es) [] pos) (tCB rc tA) (wCB fc wA) := ⟨pe_callB hc hg hm hv ha.pa hn hdb he hpl, fun E => sim_cb hs (ha.sim E)⟩
theorem de_callTy {T : String} {x : Str} {p : Pos} {rc : List V → Hp → VK → Prop} {fc : FC} (hc : CallR X (.type T) rc) (hs : CallS X.K G rc fc) (hg : Gl X x) (hm : X.mg x = none) (hv : bootBuiltins x = some (.type T)) (ha : DA X G (a :: es) tA wA) (hn : x ≠ "__name__" := by decide) (hdb : (x == ("__debug__" : Str)) = false := by decide)
    (he : starEach (a :: es) X.env = (false, eval a X.env) :: starEach es X.env := by rfl) (hpl : (backTo pos (starEach es X.env)).any (·.1) = false := by rfl) : DE X G (.Call (.Name x p) (a :: es) [] pos) (tCB rc tA) (wCB fc wA) := ⟨pe_callTy hc hg hm hv ha.pa hn hdb he hpl, fun E => sim_cb hs (ha.sim E)⟩
end
end L3
namespace L3
open PySem L2
@[simp] def wipe3 (sl : List (Option SV)) : List Nat → List (Option SV)
  | [] => sl
  | v :: vs => (wipe3 sl vs).set v none
@[simp] def unwipe (sl0 sl : List (Option SV)) : List Nat → List (Option SV)
  | [] => sl
  | v :: vs => (unwipe sl0 sl vs).set v ((sl0[v]?).getD none)
@[simp] def noOwn (sl : List (Option SV)) : List Nat → Prop
  | [] => True
  | v :: vs => (match sl[v]? with | some (some (.ow _)) => False | _ => True) ∧ noOwn sl vs
theorem noOwn.at {sl : List (Option SV)} : ∀ {vs : List Nat} {v : Nat} {d : D}, noOwn sl vs → v ∈ vs → sl[v]? = some (some (SV.ow d)) → False
  | [], _, _, _, m, _ => by simp at m
  | w :: vs, v, d, ⟨h, t⟩, m, e => by
    rcases List.mem_cons.mp m with q | q
    · subst q; rw [e] at h; exact h
    · exact t.at q e
section
variable {K : PySem.W.Frag} {G : Gx} {H H' H1 H2 H3 : Hp} {v : V} {d : D} {M M' : List Addr} {E : Ent} {am : Nat → Addr} {σ σ' : L2.St} {δ δ' δ1 δ2 : St3}
theorem SR.wiped (S : SR K G E am M σ δ H) : ∀ vs : List Nat, SR K G E am M (wipe σ vs) ⟨wipe3 δ.sl vs, δ.n⟩ H
  | [] => S
  | _ :: vs => (S.wiped vs).set_none
theorem wipe3_own {sl : List (Option SV)} {n : Nat} {i : Nat} : ∀ {vs : List Nat}, isOwn ⟨wipe3 sl vs, n⟩ i → isOwn ⟨sl, n⟩ i
  | [], h => h
  | v :: vs, ⟨d, h⟩ => by
    rcases get_set h with ⟨_, z⟩ | ⟨_, z⟩
    · cases z
    · exact wipe3_own (vs := vs) ⟨d, z⟩
theorem wipe_get {σ : L2.St} {j : Nat} : ∀ {vs : List Nat}, j ∉ vs → (wipe σ vs)[j]? = σ[j]?
  | [], _ => rfl
  | v :: vs, h => by
    have h1 : v ≠ j := fun z => h (z ▸ List.mem_cons_self)
    have h2 : j ∉ vs := fun z => h (List.mem_cons_of_mem _ z)
    show ((wipe σ vs).set v none)[j]? = _
    rw [List.getElem?_set_ne h1, wipe_get h2]
theorem wipe_in {σ : L2.St} {j : Nat} : ∀ {vs : List Nat}, j ∈ vs → (wipe σ vs)[j]? = if j < σ.length then some none else none
  | [], h => by simp at h
  | v :: vs, h => by
    show ((wipe σ vs).set v none)[j]? = _
    by_cases e : v = j
    · subst e
      by_cases l : v < σ.length
      · rw [List.getElem?_set_self (by rw [wipe_length]; exact l), if_pos l]
      · rw [List.getElem?_eq_none (by rw [List.length_set, wipe_length]; omega), if_neg l]
    · rw [List.getElem?_set_ne e]
      exact wipe_in ((List.mem_cons.mp h).resolve_left fun z => e z.symm)
theorem wipe_set {σ : L2.St} {i : Nat} {x : Option V} {vs : List Nat} (h : i ∈ vs) : wipe (σ.set i x) vs = wipe σ vs := by
  apply List.ext_getElem?
  intro j
  by_cases q : j ∈ vs
  · rw [wipe_in q, wipe_in q, List.length_set]
  · rw [wipe_get q, wipe_get q, List.getElem?_set_ne fun z => q (by rw [← z]; exact h)]
theorem wipe_wipe {σ : L2.St} {vs : List Nat} : wipe (wipe σ vs) vs = wipe σ vs := by
  apply List.ext_getElem?
  intro j
  by_cases q : j ∈ vs
  · rw [wipe_in q, wipe_in q, wipe_length]
  · rw [wipe_get q]
theorem unwipe_get {sl0 sl : List (Option SV)} {j : Nat} {x : SV} : ∀ {vs : List Nat}, (unwipe sl0 sl vs)[j]? = some (some x) → (j ∉ vs ∧ sl[j]? = some (some x)) ∨ (j ∈ vs ∧ sl0[j]? = some (some x))
  | [], h => .inl ⟨by simp, h⟩
  | v :: vs, h => by
    rcases get_set h with ⟨e, z⟩ | ⟨e, z⟩
    · subst e
      refine .inr ⟨List.mem_cons_self, ?_⟩
      cases q : sl0[j]? with
      | none => rw [q] at z; cases z
      | some y => rw [q] at z; exact congrArg some z.symm
    · rcases unwipe_get z with ⟨a, b⟩ | ⟨a, b⟩
      · exact .inl ⟨by simp only [List.mem_cons, not_or]; exact ⟨e, a⟩, b⟩
      · exact .inr ⟨List.mem_cons_of_mem _ a, b⟩
theorem unwipe_len {sl0 sl : List (Option SV)} : ∀ {vs : List Nat}, (unwipe sl0 sl vs).length = sl.length
  | [] => rfl
  | _ :: vs => by show ((unwipe sl0 sl vs).set _ _).length = _; rw [List.length_set, unwipe_len]
/-- the forgotten slots are what they were -/
theorem SR.back {vs : List Nat} (S0 : SR K G E am M σ δ1 H1) (S : SR K G E am M' (wipe σ vs) δ2 H2) (hM : ∀ a ∈ M, a ∈ M') (no : noOwn δ1.sl vs) (e : Same (L3.mask M' H1) (L3.mask M' H2)) (r : ∀ (i : Nat) (d : D), δ1.sl[i]? = some (some (SV.sh d)) → ∀ v : V, σ[i]? = some (some v) → Rep K G (L3.mask M' H1) v d) :
    SR K G E am M' σ ⟨unwipe δ1.sl δ2.sl vs, δ2.n⟩ H2 where
  len := by rw [unwipe_len, ← S.len, wipe_length]
  sh := fun j d h => by
    rcases unwipe_get h with ⟨a, b⟩ | ⟨a, b⟩
    · obtain ⟨v, x, y⟩ := S.sh j d b
      rw [wipe_get a] at x
      exact ⟨v, x, y⟩
    · obtain ⟨v, x, y⟩ := S0.sh j d b
      exact ⟨v, x, (r j d b v x).mono e⟩
  ow := fun j d h => by
    rcases unwipe_get h with ⟨a, b⟩ | ⟨a, b⟩
    · obtain ⟨x, y⟩ := S.ow j d b
      rw [wipe_get a] at x
      exact ⟨x, y⟩
    · exact (no.at a b).elim
  inj := fun a b ⟨x, ha⟩ ⟨y, hb⟩ => by
    rcases unwipe_get ha with ⟨_, p⟩ | ⟨p, q⟩
    · rcases unwipe_get hb with ⟨_, p'⟩ | ⟨p', q'⟩
      · exact S.inj a b ⟨x, p⟩ ⟨y, p'⟩
      · exact (no.at p' q').elim
    · exact (no.at p q).elim
  ads := S.ads
  dks := S.dks
  al := S.al
  base := S.base
  di := S.di
  gh := S.gh
  slf := fun x hx d h k => by
    rcases unwipe_get h with ⟨_, z⟩ | ⟨z, w⟩
    · exact S.slf x hx d z k
    · exact (no.at z w).elim
end

abbrev WG := D → St3 → (St3 → Prop) → Prop
abbrev WGs := List D → St3 → (St3 → Prop) → Prop
abbrev WI := St3 → (List D → St3 → Prop) → Prop
def SimG (K : PySem.W.Frag) (G : Gx) (us : List Nat) (g : TG) (w : WG) : Prop := ∀ (E : Ent) (am : Nat → Addr) (M : List Addr) (σ : L2.St) (δ : St3) (H : Hp), SR K G E am M σ δ H → ∀ (x : V) (d : D), Rep K G (mask M H) x d → ∀ Qd : St3 → Prop, w d δ Qd → ∀ Q : L2.St → Hp → Prop,
  (∀ (σ' : L2.St) (δ' : St3), SR K G E am M σ' δ' H → (∀ vs : List Nat, (∀ u ∈ us, u ∈ vs) → wipe σ' vs = wipe σ vs) → (∀ i, isOwn δ' i → isOwn δ i) → Qd δ' → Q σ' H) → g x σ H Q
def SimGs (K : PySem.W.Frag) (G : Gx) (us : List Nat) (g : TGs) (w : WGs) : Prop := ∀ (E : Ent) (am : Nat → Addr) (M : List Addr) (σ : L2.St) (δ : St3) (H : Hp), SR K G E am M σ δ H → ∀ (xs : List V) (ds : List D), RepAll K G (mask M H) xs ds → ∀ Qd : St3 → Prop, w ds δ Qd → ∀ Q : L2.St → Hp → Prop,
  (∀ (σ' : L2.St) (δ' : St3), SR K G E am M σ' δ' H → (∀ vs : List Nat, (∀ u ∈ us, u ∈ vs) → wipe σ' vs = wipe σ vs) → (∀ i, isOwn δ' i → isOwn δ i) → Qd δ' → Q σ' H) → g xs σ H Q
structure DG (X : Cx) (G : Gx) (tg : Expr) (us : List Nat) (g : TG) (w : WG) : Prop where
  pg : PG X tg g
  sim : SimG X.K G us g w
structure DGs (X : Cx) (G : Gx) (tgs : List Expr) (us : List Nat) (g : TGs) (w : WGs) : Prop where
  pg : PGs X tgs g
  sim : SimGs X.K G us g w
@[simp] def gN (i : Nat) : WG := fun d δ Q => Q ⟨δ.sl.set i (some (.sh d)), δ.n⟩
@[simp] def gNil3 : WGs := fun ds δ Q => ds = [] ∧ Q δ
def gCons3 (g : WG) (t : WGs) : WGs := fun ds δ Q => ∃ d r, ds = d :: r ∧ g d δ fun δ1 => t r δ1 Q
@[simp] def gTup3 (n : Nat) (t : WGs) : WG := fun d δ Q => ∃ ds, d = .tup ds ∧ ds.length = n ∧ t ds δ Q
section
variable {X : Cx} {G : Gx} {K : PySem.W.Frag}
theorem own_set {δ : St3} {i j : Nat} {d : D} (h : isOwn ⟨δ.sl.set i (some (.sh d)), δ.n⟩ j) : isOwn δ j := by
  obtain ⟨e, h⟩ := h
  rcases get_set h with ⟨_, z⟩ | ⟨_, z⟩
  · injection z with z; cases z
  · exact ⟨e, z⟩
theorem sim_gN {i : Nat} : SimG K G [i] (gName i) (gN i) := fun E am M σ δ H S x d r Qd h Q k =>
  k _ _ (S.set_sh r) (fun vs hv => wipe_set (hv i (by simp))) (fun j z => own_set z) h
theorem sim_gNil : SimGs K G [] gNil gNil3 := fun E am M σ δ H S xs ds r Qd ⟨e, h⟩ Q k => by
  subst e
  exact ⟨r, k σ δ S (fun _ _ => rfl) (fun _ z => z) h⟩
theorem sim_gCons {g : TG} {t : TGs} {w : WG} {ws : WGs} {us us' : List Nat} (h1 : SimG K G us g w) (h2 : SimGs K G us' t ws) : SimGs K G (us ++ us') (gCons g t) (gCons3 w ws) := fun E am M σ δ H S xs ds r Qd ⟨d, rs, e, h⟩ Q k => by
  subst e
  obtain ⟨x, xs, rfl, r1, r2⟩ := r
  refine ⟨x, xs, rfl, h1 E am M σ δ H S x d r1 _ h _ fun σ1 δ1 S1 w1 o1 h => ?_⟩
  refine h2 E am M σ1 δ1 H S1 xs rs r2 _ h _ fun σ2 δ2 S2 w2 o2 h => ?_
  exact k σ2 δ2 S2 (fun vs hv => (w2 vs fun u hu => hv u (List.mem_append_right _ hu)).trans (w1 vs fun u hu => hv u (List.mem_append_left _ hu))) (fun i z => o1 i (o2 i z)) h
theorem sim_gTup {n : Nat} {t : TGs} {ws : WGs} {us : List Nat} (h : SimGs K G us t ws) : SimG K G us (gTup K n t) (gTup3 n ws) := fun E am M σ δ H S x d r Qd ⟨ds, e, hl, q⟩ Q k => by
  subst e
  obtain ⟨a, xs, rfl, ht, rs⟩ := r
  exact ⟨a, xs, rfl, same_t mask_le ht, by rw [rs.length]; exact hl, h E am M σ δ H S xs ds rs _ q _ k⟩
theorem dg_name {i : Nat} {x : Str} {pos : Pos} (hN : X.N.Nodup) (hi : X.N[i]? = some x := by rfl) (hx : Loc X.env.scope x := by first | exact Or.inl rfl | exact Or.inr rfl) (hf : X.fn x = true ∨ X.env.scope.names.lookup x = some .local := by first | exact .inl rfl | exact .inr rfl) : DG X G (.Name x pos) [i] (gName i) (gN i) := ⟨pg_name hN hi hx hf, sim_gN⟩
theorem dgs_nil : DGs X G [] [] gNil gNil3 := ⟨pgs_nil, sim_gNil⟩
theorem dgs_cons {e : Expr} {es : List Expr} {g : TG} {t : TGs} {w : WG} {ws : WGs} {us us' : List Nat} (h1 : DG X G e us g w) (h2 : DGs X G es us' t ws) (hs : (assignEach (e :: es) X.env).map (·.2) = assign e X.env :: (assignEach es X.env).map (·.2) := by rfl) : DGs X G (e :: es) (us ++ us') (gCons g t) (gCons3 w ws) := ⟨pgs_cons h1.pg h2.pg hs, sim_gCons h1.sim h2.sim⟩
theorem dg_tup {es : List Expr} {k : Nat} {pos : Pos} {t : TGs} {ws : WGs} {us : List Nat} {n : Nat} (hc : X.calm = true) (h : DGs X G es us t ws) (hn : (assignEach es X.env).length = n := by rfl) (hst : (assignEach es X.env).findIdx? (·.1) = none := by rfl) :
    DG X G (.Tuple es k pos) us (gTup X.K n t) (gTup3 n ws) := ⟨pg_tup hc h.pg hn hst, sim_gTup h.sim⟩
end

/-- an iterator gives just these, as long as the ghosts stand -/
def IterOk (K : PySem.W.Frag) (G : Gx) (gh : List (V × D)) (J : It) (items : List D) : Prop := ∀ (E : Ent) (am : Nat → Addr) (M : List Addr) (σ : L2.St) (δ : St3) (H : Hp), SR K G E am M σ δ H → (∀ p ∈ gh, p ∈ E.gh) →
  (∀ i, items.length = i → J.stop i H) ∧ ∀ (i : Nat) (d : D), items[i]? = some d → J.go i H ∧ ∀ x H', J.yld i H x H' → Same H H' ∧ Rep K G (mask M H') x d
def Ent.add (E : Ent) (l : List (V × D)) : Ent := ⟨E.H0, E.ads, l ++ E.gh, E.slf⟩
def SimI (K : PySem.W.Frag) (G : Gx) (E : Ent) (ti : TI) (w : WI) : Prop := ∀ (am : Nat → Addr) (M : List Addr) (σ : L2.St) (δ : St3) (H : Hp), SR K G E am M σ δ H → ∀ Rd : List D → St3 → Prop, w δ Rd → ∀ R : It → Hp → Prop,
  (∀ (J : It) (items : List D) (gh : List (V × D)) (δ' : St3) (H' : Hp), SR K G (E.add gh) am M σ δ' H' → Ext G am δ H H' → (∀ i, isOwn δ' i → isOwn δ i) → IterOk K G gh J items → Rd items δ' → R J H') → ti σ H R
structure DI (X : Cx) (G : Gx) (tg iter : Expr) (ti : TI) (w : WI) : Prop where
  pi : PI X tg iter ti
  sim : ∀ E, SimI X.K G E ti w
@[simp] def wItems (f : D → Option (List D)) (a : WE) : WI := fun δ R => a δ fun r δ1 => ¬ r.bor ∧ ∃ ds, f r.d = some ds ∧ R ds δ1
def asL : D → Option (List D)
  | .lst ds => some ds
  | _ => none
def asT : D → Option (List D)
  | .tup ds => some ds
  | _ => none
section
variable {X : Cx} {G : Gx} {K : PySem.W.Frag} {E : Ent} {tg e : Expr} {te : TE} {we : WE}
theorem SR.drop {gh : List (V × D)} {am : Nat → Addr} {M : List Addr} {σ : L2.St} {δ : St3} {H : Hp} (S : SR K G (E.add gh) am M σ δ H) : SR K G E am M σ δ H := S.ungh fun p h => List.mem_append_right _ h
theorem iterL {a : Addr} {ds : List D} : IterOk K G [(.ref a, .lst ds)] (Itl K a) ds := fun E am M σ δ H S hg => by
  obtain ⟨a', xs, e, hs, r⟩ := S.gh _ (hg (.ref a, .lst ds) (by simp))
  cases e
  have hs' : SqL K H a xs := SqL.of (mask_le _ _ hs)
  refine ⟨fun i hi => ⟨xs, hs', Nat.le_of_eq (r.length.trans hi)⟩, fun i d hd => ?_⟩
  obtain ⟨x, hx, rx⟩ := r.get hd
  refine ⟨⟨xs, x, hs', hx⟩, fun y H' ⟨e1, e2⟩ => ?_⟩
  subst e1
  have e3 := e2 xs hs'
  rw [hx] at e3
  cases e3
  exact ⟨Same.refl _, rx⟩
theorem iterT {a : Addr} {ds : List D} : IterOk K G [(.ref a, .tup ds)] (Itt K a) ds := fun E am M σ δ H S hg => by
  obtain ⟨a', xs, e, hs, r⟩ := S.gh _ (hg (.ref a, .tup ds) (by simp))
  cases e
  have hs' := same_t mask_le hs
  refine ⟨fun i hi => ⟨xs, hs', Nat.le_of_eq (r.length.trans hi)⟩, fun i d hd => ?_⟩
  obtain ⟨x, hx, rx⟩ := r.get hd
  refine ⟨⟨xs, x, hs', hx⟩, fun y H' ⟨e1, e2⟩ => ?_⟩
  subst e1
  have e3 := e2 xs hs'
  rw [hx] at e3
  cases e3
  exact ⟨Same.refl _, rx⟩
theorem sim_iL (h : SimE K G E te we) : SimI K G E (iList K te) (wItems asL we) := fun am M σ δ H S Rd q R k =>
  h am M σ δ H S _ q _ fun v r δ1 H1 S1 e1 o1 rv ⟨nb, ds, hd, hR⟩ => by
    have rr := rv.k.rep nb
    cases q : r.d with
    | lst ds' =>
      rw [q] at hd rr
      cases hd
      obtain ⟨a, xs, rfl, hs, r2⟩ := id rr
      refine ⟨a, rfl, ⟨xs, SqL.of (mask_le _ _ hs)⟩, k (Itl K a) ds [(.ref a, .lst ds)] δ1 H1 (S1.addgh _ fun p hp => ?_) e1 o1 iterL hR⟩
      have : p = (V.ref a, D.lst ds) := by simpa using hp
      subst this
      exact rr
    | _ => rw [q] at hd; cases hd
theorem sim_iT (h : SimE K G E te we) : SimI K G E (iTup K te) (wItems asT we) := fun am M σ δ H S Rd q R k =>
  h am M σ δ H S _ q _ fun v r δ1 H1 S1 e1 o1 rv ⟨nb, ds, hd, hR⟩ => by
    have rr := rv.k.rep nb
    cases q : r.d with
    | tup ds' =>
      rw [q] at hd rr
      cases hd
      obtain ⟨a, xs, rfl, hs, r2⟩ := id rr
      refine ⟨a, rfl, ⟨xs, same_t mask_le hs⟩, k (Itt K a) ds [(.ref a, .tup ds)] δ1 H1 (S1.addgh _ fun p hp => ?_) e1 o1 iterT hR⟩
      have : p = (V.ref a, D.tup ds) := by simpa using hp
      subst this
      exact rr
    | _ => rw [q] at hd; cases hd
theorem di_list (h : DE X G e te we) : DI X G tg e (iList X.K te) (wItems asL we) := ⟨pi_list h.pe, fun E => sim_iL (h.sim E)⟩
theorem di_tup (h : DE X G e te we) : DI X G tg e (iTup X.K te) (wItems asT we) := ⟨pi_tup h.pe, fun E => sim_iT (h.sim E)⟩
/-- range -/
def rng (lo : Int) (n : Nat) : List D := (List.range n).map fun (k : Nat) => D.int (lo + (k : Int))
theorem rng_len {lo : Int} {n : Nat} : (rng lo n).length = n := by simp [rng]
theorem rng_get {lo : Int} {n i : Nat} {d : D} (h : (rng lo n)[i]? = some d) : i < n ∧ d = .int (lo + i) := by
  have hi : i < n := by
    have := (List.getElem?_eq_some_iff.mp h).1
    rwa [rng_len] at this
  refine ⟨hi, ?_⟩
  rw [rng, List.getElem?_map, List.getElem?_range hi] at h
  exact (Option.some.inj h).symm
theorem iterR {lo : Int} {n : Nat} : IterOk K G [] (Itr lo n) (rng lo n) := fun E am M σ δ H S hg => by
  refine ⟨fun i hi => by rw [rng_len] at hi; exact Nat.le_of_eq hi, fun i d hd => ?_⟩
  obtain ⟨h1, rfl⟩ := rng_get hd
  refine ⟨h1, fun y H' ⟨e1, e2⟩ => ?_⟩
  subst e1 e2
  exact ⟨Same.refl _, rfl⟩
@[simp] def wRng1 (a : WA) : WI := fun δ R => a δ fun rs δ1 => ∃ j : Int, rs.map RD.d = [.int j] ∧ j < 2 ^ 62 ∧ -(2 ^ 62) ≤ j ∧ R (rng 0 j.toNat) δ1
@[simp] def wRng2 (a : WA) : WI := fun δ R => a δ fun rs δ1 => ∃ i j : Int, rs.map RD.d = [.int i, .int j] ∧ (-(2 ^ 62) ≤ i ∧ i < 2 ^ 62 ∧ -(2 ^ 62) ≤ j ∧ j < 2 ^ 62) ∧ R (rng i (j - i).toNat) δ1
variable {es : List Expr} {ta : TA} {wa : WA}
theorem RBs.one {M : List Addr} {H : Hp} {vs : List V} {d : D} (h : RBs K G M H vs [d]) : ∃ v, vs = [v] ∧ RB K G M H v d := by
  cases h with
  | cons a b => cases b; exact ⟨_, rfl, a⟩
theorem RBs.two {M : List Addr} {H : Hp} {vs : List V} {d e : D} (h : RBs K G M H vs [d, e]) : ∃ v u, vs = [v, u] ∧ RB K G M H v d ∧ RB K G M H u e := by
  cases h with
  | cons a b =>
    obtain ⟨u, rfl, c⟩ := b.one
    exact ⟨_, _, rfl, a, c⟩
theorem sim_r1 (h : SimA K G E ta wa) : SimI K G E (iRng1 ta) (wRng1 wa) := fun am M σ δ H S Rd q R k =>
  h am M σ δ H S _ q _ fun vs rs δ1 H1 S1 e1 o1 rv ⟨j, hj, h1, h2, hR⟩ => by
    have := rv.rbs S1
    rw [hj] at this
    obtain ⟨v, rfl, b⟩ := this.one
    rw [b.int]
    exact ⟨j, rfl, h2, h1, k _ _ [] δ1 H1 (S1.addgh _ fun p hp => by simp at hp) e1 o1 iterR hR⟩
theorem sim_r2 (h : SimA K G E ta wa) : SimI K G E (iRng2 ta) (wRng2 wa) := fun am M σ δ H S Rd q R k =>
  h am M σ δ H S _ q _ fun vs rs δ1 H1 S1 e1 o1 rv ⟨i, j, hj, hb, hR⟩ => by
    have := rv.rbs S1
    rw [hj] at this
    obtain ⟨v, u, rfl, b, c⟩ := this.two
    rw [b.int, c.int]
    exact ⟨i, j, rfl, hb, k _ _ [] δ1 H1 (S1.addgh _ fun p hp => by simp at hp) e1 o1 iterR hR⟩
theorem di_range1 {a : Expr} {p pos : Pos} (hg : Gl X "range") (hm : X.mg "range" = none) (ha : DA X G [a] ta wa) (hs : starEach [a] X.env = [(false, eval a X.env)] := by rfl) : DI X G tg (.Call (.Name "range" p) [a] [] pos) (iRng1 ta) (wRng1 wa) := ⟨pi_range1 hg hm ha.pa hs, fun E => sim_r1 (ha.sim E)⟩
theorem di_range2 {a b : Expr} {p pos : Pos} (hg : Gl X "range") (hm : X.mg "range" = none) (ha : DA X G [a, b] ta wa) (hs : starEach [a, b] X.env = [(false, eval a X.env), (false, eval b X.env)] := by rfl) (hs2 : starEach [b] X.env = [(false, eval b X.env)] := by rfl) :
    DI X G tg (.Call (.Name "range" p) [a, b] [] pos) (iRng2 ta) (wRng2 wa) := ⟨pi_range2 hg hm ha.pa hs hs2, fun E => sim_r2 (ha.sim E)⟩
end

@[simp] def wNext : WS := fun De δ => De.nx δ
@[simp] def wSeq (a b : WS) : WS := fun De δ => a ⟨b De, De.rt, De.bk, De.ct⟩ δ
@[simp] def wBrk : WS := fun De δ => De.bk δ
@[simp] def wCnt : WS := fun De δ => De.ct δ
@[simp] def wAsg (i : Nat) (w : WE) : WS := fun De δ => w δ fun r δ1 => ¬ r.bor ∧ De.nx ⟨δ1.sl.set i (some (.sh r.d)), δ1.n⟩
@[simp] def wAsgO (i : Nat) (w : WE) : WS := fun De δ => w δ fun r δ1 => ∃ d, r = .fr d ∧ d.isIns = false ∧ De.nx ⟨δ1.sl.set i (some (.ow d)), δ1.n⟩
@[simp] def wAsgG (g : WG) (w : WE) : WS := fun De δ => w δ fun r δ1 => ¬ r.bor ∧ g r.d δ1 De.nx
@[simp] def wDrop (w : WE) : WS := fun De δ => w δ fun _ δ1 => De.nx δ1
@[simp] def wRet (w : WE) : WS := fun De δ => w δ fun r δ1 => De.rt r.d δ1.n
@[simp] def wRetN : WS := fun De δ => De.rt .non δ.n
@[simp] def wIfS (t : WT) (a b : WS) : WS := fun De δ => t δ fun k δ1 => (k = true → a De δ1) ∧ (k = false → b De δ1)
/-- the list in a slot is never changed again -/
@[simp] def wFree (i : Nat) (w : WS) : WS := fun De δ => ∃ d, δ.sl[i]? = some (some (SV.ow d)) ∧ w De ⟨δ.sl.set i (some (.sh d)), δ.n⟩
def wLoop (g : WG) (b : WS) (De : Ends3) : List D → St3 → Prop
  | [], δ => De.nx δ
  | x :: r, δ => g x δ fun δ1 => b ⟨wLoop g b De r, De.rt, De.nx, wLoop g b De r⟩ δ1
@[simp] def wFor (wi : WI) (g : WG) (b : WS) : WS := fun De δ => wi δ fun ds δ1 => wLoop g b De ds δ1
def wWhile (t : WT) (b : WS) : WS := fun De δ => ∃ W : Nat → St3 → Prop, (∃ m, W m δ) ∧ ∀ m δ, W m δ → t δ fun k δ1 =>
  (k = true → b ⟨fun δ' => ∃ m', m' < m ∧ W m' δ', De.rt, De.nx, fun δ' => ∃ m', m' < m ∧ W m' δ'⟩ δ1) ∧ (k = false → De.nx δ1)
def okp (o : Bool) (r : RD) : Prop := match o with
  | true => ∃ d, r = .fr d ∧ d.isIns = false
  | false => ¬ r.bor
@[simp] theorem okp_0 (r : RD) : okp true r = ∃ d, r = .fr d ∧ d.isIns = false := rfl
@[simp] theorem okp_1 (r : RD) : okp false r = ¬ r.bor := rfl
def svOf (o : Bool) (r : RD) : SV := match o with
  | true => .ow r.d
  | false => .sh r.d
@[simp] theorem svOf_0 (r : RD) : svOf true r = .ow r.d := rfl
@[simp] theorem svOf_1 (r : RD) : svOf false r = .sh r.d := rfl
@[simp] def wPar2 (i : Nat) (oi : Bool) (j : Nat) (oj : Bool) (a b : WE) : WS := fun De δ => a δ fun x δ1 => b δ1 fun y δ2 => okp oi x ∧ okp oj y ∧ De.nx ⟨(δ2.sl.set i (some (svOf oi x))).set j (some (svOf oj y)), δ2.n⟩
@[simp] def wPar3 (i : Nat) (oi : Bool) (j : Nat) (oj : Bool) (l : Nat) (ol : Bool) (a b c : WE) : WS := fun De δ => a δ fun x δ1 => b δ1 fun y δ2 => c δ2 fun z δ3 => okp oi x ∧ okp oj y ∧ okp ol z ∧
  De.nx ⟨((δ3.sl.set i (some (svOf oi x))).set j (some (svOf oj y))).set l (some (svOf ol z)), δ3.n⟩
section
variable {X : Cx} {G : Gx} {K : PySem.W.Frag} {E : Ent} {te ta tb tc : TE} {we wa wb wc : WE} {t u : TS} {w w' : WS} {e a b c : Expr} {st : Stmt} {sts : List Stmt} {tt : TT} {wt : WT} {pos : Pos}
theorem sim_seq (h1 : SimS K G t w) (h2 : SimS K G u w') : SimS K G (tSeq t u) (wSeq w w') := fun E am M σ δ H S D3 h De R =>
  h1 E am M σ δ H S _ h _ ⟨fun am M σ δ H S q => h2 E am M σ δ H S D3 q De R, R.bk, R.ct, R.rt⟩
theorem sim_next : SimS K G tNext wNext := fun E am M σ δ H S D3 h De R => R.nx am M σ δ H S h
theorem sim_brk : SimS K G tBreak wBrk := fun E am M σ δ H S D3 h De R => R.bk am M σ δ H S h
theorem sim_cnt : SimS K G tCont wCnt := fun E am M σ δ H S D3 h De R => R.ct am M σ δ H S h
theorem sim_asg {i : Nat} (h : ∀ E, SimE K G E te we) : SimS K G (tAsg te (gName i)) (wAsg i we) := fun E am M σ δ H S D3 q De R =>
  h E am M σ δ H S _ q _ fun v r δ1 H1 S1 e1 o1 rv ⟨nb, q⟩ => R.nx am M _ _ H1 (S1.set_sh (rv.k.rep nb)) q
theorem sim_asgG {g : TG} {wg : WG} {us : List Nat} (h : ∀ E, SimE K G E te we) (hg : SimG K G us g wg) : SimS K G (tAsg te g) (wAsgG wg we) := fun E am M σ δ H S D3 q De R =>
  h E am M σ δ H S _ q _ fun v r δ1 H1 S1 e1 o1 rv ⟨nb, q⟩ => hg E am M σ δ1 H1 S1 v _ (rv.k.rep nb) _ q _ fun σ' δ' S' _ _ q => R.nx am M σ' δ' H1 S' q
theorem sim_asgO {i : Nat} (h : ∀ E, SimE K G E te we) : SimS K G (tAsg te (gName i)) (wAsgO i we) := fun E am M σ δ H S D3 q De R =>
  h E am M σ δ H S _ q _ fun v r δ1 H1 S1 e1 o1 rv ⟨d, er, ni, q⟩ => by
    subst er
    obtain ⟨p, rfl, hp, h0, o, S2⟩ := rv
    exact R.nx _ _ _ _ H1 (S2.set_ow List.mem_cons_self (fun z => hp (S1.ads p z)) (fun j d hd z => hp (z ▸ (S1.ow j d hd).2.1)) h0 o ni) q
theorem sim_drop (h : ∀ E, SimE K G E te we) : SimS K G (tDrop te) (wDrop we) := fun E am M σ δ H S D3 q De R =>
  h E am M σ δ H S _ q _ fun v r δ1 H1 S1 e1 o1 rv q => R.nx am M σ δ1 H1 S1 q
theorem RV.out {am : Nat → Addr} {M : List Addr} {σ : L2.St} {δ : St3} {H : Hp} {v : V} {r : RD} (S : SR K G E am M σ δ H) (h : RV K G E am M σ δ H v r) : Rep K G (mask E.ads H) v r.d := by
  cases r with
  | sh d => exact Rep.mono (mask_sub S.ads) d h
  | fr d => exact Rep.mono (mask_sub S.ads) d (RV.k h)
  | bo d =>
    obtain ⟨i, hi, rfl⟩ := h
    obtain ⟨_, _, c, _, o⟩ := S.ow i d hi
    exact o.rep (mask_sub S.ads) fun u e => by rw [mask_out c]; exact e
theorem sim_ret (h : ∀ E, SimE K G E te we) : SimS K G (tRet te) (wRet we) := fun E am M σ δ H S D3 q De R =>
  h E am M σ δ H S _ q _ fun v r δ1 H1 S1 e1 o1 rv q => R.rt v _ _ H1 (rv.out S1) S1.base S1.di q
theorem sim_retN : SimS K G tRetN wRetN := fun E am M σ δ H S D3 q De R => R.rt .non .non _ H rfl S.base S.di q
theorem sim_ifS (h : ∀ E, SimT K G E tt wt) (h1 : SimS K G t w) (h2 : SimS K G u w') : SimS K G (tIfS tt t u) (wIfS wt w w') := fun E am M σ δ H S D3 q De R =>
  h E am M σ δ H S _ q _ fun k δ1 H1 S1 e1 o1 q => by
    cases k with
    | true => rw [if_pos rfl]; exact h1 E am M σ δ1 H1 S1 D3 (q.1 rfl) De R
    | false => rw [if_neg Bool.false_ne_true]; exact h2 E am M σ δ1 H1 S1 D3 (q.2 rfl) De R
theorem sim_free {i : Nat} (h : SimS K G t w) : SimS K G t (wFree i w) := fun E am M σ δ H S D3 ⟨d, hd, q⟩ De R => by
  obtain ⟨M', _, S'⟩ := S.free hd
  exact h E am M' σ _ H S' D3 q De R
theorem sim_for {ti : TI} {wi : WI} {g : TG} {wg : WG} {us : List Nat} (hi : ∀ E, SimI K G E ti wi) (hg : SimG K G us g wg) (hb : SimS K G t w) : SimS K G (tFor ti g t) (wFor wi wg w) := fun E am M σ δ H S D3 q De R => by
  refine hi E am M σ δ H S _ q _ fun J items gh δ1 H1 S1 e1 o1 ok q => ?_
  refine ⟨fun i m σ H => m = items.length - i ∧ i ≤ items.length ∧ ∃ am M δ, SR K G (E.add gh) am M σ δ H ∧ wLoop wg w D3 (items.drop i) δ, ⟨_, rfl, Nat.zero_le _, am, M, δ1, S1, q⟩, ?_⟩
  rintro i m σ H ⟨rfl, hle, am, M, δ, S, q⟩
  obtain ⟨j1, j2⟩ := ok _ _ _ _ _ _ S fun p hp => List.mem_append_left _ hp
  by_cases hlt : i < items.length
  · have hd : items[i]? = some items[i] := List.getElem?_eq_getElem hlt
    obtain ⟨g1, g2⟩ := j2 i _ hd
    rw [List.drop_eq_getElem_cons hlt] at q
    refine .inr ⟨g1, fun σ' H' => ∃ am M δ, SR K G (E.add gh) am M σ' δ H' ∧ wLoop wg w D3 (items.drop (i + 1)) δ, fun σ' H' ⟨am, M, δ, S, q⟩ => ⟨_, by omega, rfl, hlt, am, M, δ, S, q⟩, fun x H' hy => ?_⟩
    obtain ⟨sm, rx⟩ := g2 x H' hy
    have S' := S.grow sm
    refine hg _ am M σ δ H' S' x _ rx _ q _ fun σ2 δ2 S2 _ _ q => ?_
    refine hb _ am M σ2 δ2 H' S2 _ q _ ⟨fun am M σ δ H S q => ⟨am, M, δ, S, q⟩, fun am M σ δ H S q => R.nx am M σ δ H S.drop q, fun am M σ δ H S q => ⟨am, M, δ, S, q⟩, R.rt⟩
  · have e : i = items.length := by omega
    subst e
    rw [List.drop_length] at q
    exact .inl ⟨j1 _ rfl, R.nx am M σ δ H S.drop q⟩
theorem sim_while (ht : ∀ E, SimT K G E tt wt) (hb : SimS K G t w) : SimS K G (tWhile tt t) (wWhile wt w) := fun E am M σ δ H S D3 ⟨W, ⟨m, w0⟩, q⟩ De R => by
  refine ⟨fun m σ H => ∃ am M δ, SR K G E am M σ δ H ∧ W m δ, ⟨m, am, M, δ, S, w0⟩, fun m σ H ⟨am, M, δ, S, hw⟩ => ?_⟩
  refine ht E am M σ δ H S _ (q m δ hw) _ fun k δ1 H1 S1 e1 o1 q => ?_
  cases k with
  | false => rw [if_neg Bool.false_ne_true]; exact R.nx am M σ δ1 H1 S1 (q.2 rfl)
  | true =>
    rw [if_pos rfl]
    refine ⟨fun σ' H' => ∃ m', m' < m ∧ ∃ am M δ, SR K G E am M σ' δ H' ∧ W m' δ, fun σ' H' z => z, hb E am M σ δ1 H1 S1 _ (q.1 rfl) _ ⟨?_, ?_, ?_, R.rt⟩⟩
    · exact fun am M σ δ H S ⟨m', l, z⟩ => ⟨m', l, am, M, δ, S, z⟩
    · exact R.nx
    · exact fun am M σ δ H S ⟨m', l, z⟩ => ⟨m', l, am, M, δ, S, z⟩
/-- a value at hand that is to be stored later, kept while others are worked out -/
def PV (K : PySem.W.Frag) (G : Gx) (E : Ent) (am : Nat → Addr) (M : List Addr) (δ : St3) (H : Hp) (v : V) : Bool → D → Prop
  | true, d => ∃ p, v = .ref p ∧ p ∈ M ∧ p ∉ E.ads ∧ E.H0 p = none ∧ (∀ (j : Nat) (d : D), δ.sl[j]? = some (some (SV.ow d)) → am j ≠ p) ∧ OwnAt K G M H p d
  | false, d => Rep K G (mask M H) v d
theorem RV.pv {am : Nat → Addr} {M : List Addr} {σ : L2.St} {δ : St3} {H : Hp} {v : V} {r : RD} {o : Bool} (S : SR K G E am M σ δ H) (h : RV K G E am M σ δ H v r) (k : okp o r) :
    ∃ M', (∀ a ∈ M, a ∈ M') ∧ SR K G E am M' σ δ H ∧ PV K G E am M' δ H v o r.d ∧ (o = true → ∀ p, v = .ref p → p ∉ M) := by
  cases o with
  | false => exact ⟨M, fun _ z => z, S, h.k.rep k, fun z => by cases z⟩
  | true =>
    obtain ⟨d, rfl, _⟩ := k
    obtain ⟨p, rfl, hp, h0, o, S2⟩ := h
    exact ⟨p :: M, fun a z => List.mem_cons_of_mem _ z, S2, ⟨p, rfl, List.mem_cons_self, fun z => hp (S.ads p z), h0, fun j d hd z => hp (z ▸ (S.ow j d hd).2.1), o⟩, fun _ q e => by cases e; exact hp⟩
theorem RepAll.zip {H : Hp} : ∀ {xs : List V} {ds : List D}, RepAll K G H xs ds → ∀ p ∈ xs.zip ds, Rep K G H p.1 p.2
  | _, [], h, p, hp => by cases h; simp at hp
  | _, d :: ds, ⟨x, xs, e, r, t⟩, p, hp => by
    subst e
    rcases List.mem_cons.mp (show p ∈ (x, d) :: xs.zip ds from hp) with z | z
    · rw [z]; exact r
    · exact t.zip p z
theorem RepAll.unzip {H : Hp} : ∀ {xs : List V} {ds : List D}, xs.length = ds.length → (∀ p ∈ xs.zip ds, Rep K G H p.1 p.2) → RepAll K G H xs ds
  | [], [], _, _ => rfl
  | [], _ :: _, l, _ => by simp at l
  | _ :: _, [], l, _ => by simp at l
  | x :: xs, d :: ds, l, h => ⟨x, xs, rfl, h (x, d) List.mem_cons_self, RepAll.unzip (by simpa using l) fun p hp => h p (List.mem_cons_of_mem _ hp)⟩
theorem PV.ghost {am : Nat → Addr} {M : List Addr} {σ : L2.St} {δ : St3} {H : Hp} {v : V} {d : D} {o : Bool} (S : SR K G E am M σ δ H) (h : PV K G E am M δ H v o d) :
    ∃ l, SR K G (E.add l) am M σ δ H ∧ ∀ (M' : List Addr) (δ' : St3) (H' : Hp), SR K G (E.add l) am M' σ δ' H' → Ext G am δ H H' → (∀ i, isOwn δ' i → isOwn δ i) → (∀ a ∈ M, a ∈ M') → PV K G E am M' δ' H' v o d := by
  cases o with
  | false =>
    refine ⟨[(v, d)], S.addgh _ fun p hp => ?_, fun M' δ' H' S' _ _ _ => S'.gh (v, d) (by simp [Ent.add])⟩
    have : p = (v, d) := by simpa using hp
    subst this
    exact h
  | true =>
    obtain ⟨p, rfl, hp, ha, h0, hn, o⟩ := h
    have own : ∀ {δ' : St3}, (∀ i, isOwn δ' i → isOwn δ i) → ∀ (j : Nat) (d : D), δ'.sl[j]? = some (some (SV.ow d)) → am j ≠ p := fun ow j d hd => by
      obtain ⟨d', h'⟩ := ow j ⟨d, hd⟩
      exact hn j d' h'
    have keep : ∀ {H' : Hp}, Ext G am δ H H' → ∀ u, H p = some u → H' p = some u := fun e u hu => e p u hu (fun z => ha (S.dks p z)) fun i ⟨d, hi⟩ => hn i d hi
    cases d with
    | lst ds =>
      obtain ⟨xs, hx, r⟩ := o
      refine ⟨xs.zip ds, S.addgh _ r.zip, fun M' δ' H' S' e ow hM => ⟨p, rfl, hM p hp, ha, h0, own ow, xs, keep e _ hx, RepAll.unzip r.length fun q hq => S'.gh q (List.mem_append_left _ hq)⟩⟩
    | dct ks ds =>
      obtain ⟨xs, hx, l, r⟩ := o
      refine ⟨xs.zip ds, S.addgh _ r.zip, fun M' δ' H' S' e ow hM => ⟨p, rfl, hM p hp, ha, h0, own ow, xs, keep e _ hx, l, RepAll.unzip r.length fun q hq => S'.gh q (List.mem_append_left _ hq)⟩⟩
    | ins t ds =>
      obtain ⟨dx, xs, hx, l, r⟩ := o
      refine ⟨xs.zip ds, S.addgh _ r.zip, fun M' δ' H' S' e ow hM => ⟨p, rfl, hM p hp, ha, h0, own ow, dx, xs, keep e _ hx, l, RepAll.unzip r.length fun q hq => S'.gh q (List.mem_append_left _ hq)⟩⟩
    | _ => exact o.elim
theorem okp_ni {o : Bool} {r : RD} (k : okp o r) : o = true → r.d.isIns = false := fun e => by
  subst e
  obtain ⟨d, rfl, h⟩ := k
  exact h
theorem PV.put {am : Nat → Addr} {M : List Addr} {σ : L2.St} {δ : St3} {H : Hp} {v : V} {r : RD} {o : Bool} {i : Nat} (S : SR K G E am M σ δ H) (h : PV K G E am M δ H v o r.d) (ni : o = true → r.d.isIns = false) :
    ∃ am', SR K G E am' M (σ.set i (some v)) ⟨δ.sl.set i (some (svOf o r)), δ.n⟩ H ∧ ∀ (v' : V) (o' : Bool) (d' : D), (o = true → o' = true → v' ≠ v) → PV K G E am M δ H v' o' d' → PV K G E am' M ⟨δ.sl.set i (some (svOf o r)), δ.n⟩ H v' o' d' := by
  cases o with
  | false =>
    refine ⟨am, S.set_sh h, fun v' o' r' _ h' => ?_⟩
    cases o' with
    | false => exact h'
    | true =>
      obtain ⟨p, e, hp, ha, h0, hn, o⟩ := h'
      exact ⟨p, e, hp, ha, h0, fun j d hd => by obtain ⟨d', q⟩ := own_set ⟨d, hd⟩; exact hn j d' q, o⟩
  | true =>
    obtain ⟨p, rfl, hp, ha, h0, hn, o⟩ := h
    refine ⟨_, S.set_ow (i := i) hp ha hn h0 o (ni rfl), fun v' o' r' hne h' => ?_⟩
    cases o' with
    | false => exact h'
    | true =>
      obtain ⟨p', rfl, hp', ha', h0', hn', o'⟩ := h'
      refine ⟨p', rfl, hp', ha', h0', fun j d hd => ?_, o'⟩
      show (if j = i then p else am j) ≠ p'
      by_cases q : j = i
      · rw [if_pos q]
        intro z
        exact hne rfl rfl (by rw [z])
      · rw [if_neg q]
        rcases get_set hd with ⟨z, _⟩ | ⟨_, z⟩
        · exact (q z).elim
        · exact hn' j d z
theorem EndsR.add {D3 : Ends3} {De : L2.Ends} (R : EndsR K G E D3 De) (l : List (V × D)) : EndsR K G (E.add l) D3 De :=
  ⟨fun am M σ δ H S => R.nx am M σ δ H S.drop, fun am M σ δ H S => R.bk am M σ δ H S.drop, fun am M σ δ H S => R.ct am M σ δ H S.drop, R.rt⟩
theorem PV.of_add {am : Nat → Addr} {M : List Addr} {δ : St3} {H : Hp} {v : V} {d : D} {o : Bool} {l : List (V × D)} (h : PV K G (E.add l) am M δ H v o d) : PV K G E am M δ H v o d := by
  cases o with
  | false => exact h
  | true => exact h
theorem PV.ref {am : Nat → Addr} {M : List Addr} {δ : St3} {H : Hp} {v : V} {d : D} (h : PV K G E am M δ H v true d) : ∃ p, v = .ref p ∧ p ∈ M := by
  obtain ⟨p, e, hp, _⟩ := h
  exact ⟨p, e, hp⟩
theorem sim_par2 {i j : Nat} {oi oj : Bool} (ha : ∀ E, SimE K G E ta wa) (hb : ∀ E, SimE K G E tb wb) : SimS K G (tPar i j (tCons ta (tCons tb tNil))) (wPar2 i oi j oj wa wb) := fun E am M σ δ H S D3 q De R => by
  refine ha E am M σ δ H S _ q _ fun x rx δ1 H1 S1 e1 o1 v1 q => ?_
  -- the first one must be fit to be stored: told at the end; till then both ways
  by_cases k1 : okp oi rx
  · obtain ⟨M1, i1, T1, p1, n1⟩ := v1.pv S1 k1
    obtain ⟨l1, G1, b1⟩ := p1.ghost T1
    refine hb (E.add l1) am M1 σ δ1 H1 G1 _ q _ fun y ry δ2 H2 S2 e2 o2 v2 ⟨_, k2, q⟩ => ?_
    obtain ⟨M2, i2, T2, p2, n2⟩ := v2.pv S2 k2
    have q1 := b1 M2 δ2 H2 T2 e2 o2 i2
    obtain ⟨am1, U1, f1⟩ := PV.put (i := i) T2.drop q1 (okp_ni k1)
    have q2 := f1 y oj ry.d (fun z1 z2 e => by
      subst z1 z2
      obtain ⟨p, e', hp⟩ := p1.ref
      exact n2 rfl p (by rw [e, e']) hp) p2.of_add
    obtain ⟨am2, U2, _⟩ := PV.put (i := j) U1 q2 (okp_ni k2)
    exact ⟨x, y, rfl, R.nx _ _ _ _ _ U2 q⟩
  · refine hb E am M σ δ1 H1 S1 _ q _ fun y ry δ2 H2 S2 e2 o2 v2 ⟨k, _⟩ => (k1 k).elim
theorem sim_par3 {i j m : Nat} {oi oj om : Bool} (ha : ∀ E, SimE K G E ta wa) (hb : ∀ E, SimE K G E tb wb) (hc : ∀ E, SimE K G E tc wc) : SimS K G (tPar3 i j m (tCons ta (tCons tb (tCons tc tNil)))) (wPar3 i oi j oj m om wa wb wc) := fun E am M σ δ H S D3 q De R => by
  refine ha E am M σ δ H S _ q _ fun x rx δ1 H1 S1 e1 o1 v1 q => ?_
  by_cases k1 : okp oi rx
  · obtain ⟨M1, i1, T1, p1, n1⟩ := v1.pv S1 k1
    obtain ⟨l1, G1, b1⟩ := p1.ghost T1
    refine hb (E.add l1) am M1 σ δ1 H1 G1 _ q _ fun y ry δ2 H2 S2 e2 o2 v2 q => ?_
    by_cases k2 : okp oj ry
    · obtain ⟨M2, i2, T2, p2, n2⟩ := v2.pv S2 k2
      obtain ⟨l2, G2, b2⟩ := p2.ghost T2
      refine hc ((E.add l1).add l2) am M2 σ δ2 H2 G2 _ q _ fun z rz δ3 H3 S3 e3 o3 v3 ⟨_, _, k3, q⟩ => ?_
      obtain ⟨M3, i3, T3, p3, n3⟩ := v3.pv S3 k3
      have q2 := (b2 M3 δ3 H3 T3 e3 o3 i3).of_add
      have q1 := b1 M3 δ3 H3 T3.drop (e2.trans o2 e3) (fun i z => o2 i (o3 i z)) fun a z => i3 a (i2 a z)
      obtain ⟨am1, U1, f1⟩ := PV.put (i := i) T3.drop.drop q1 (okp_ni k1)
      have r2 := f1 y oj ry.d (fun z1 z2 e => by
        subst z1 z2
        obtain ⟨p, e', hp⟩ := p1.ref
        exact n2 rfl p (by rw [e, e']) hp) q2
      have r3 := f1 z om rz.d (fun z1 z2 e => by
        subst z1 z2
        obtain ⟨p, e', hp⟩ := p1.ref
        exact n3 rfl p (by rw [e, e']) (i2 p hp)) p3.of_add.of_add
      obtain ⟨am2, U2, f2⟩ := PV.put (i := j) U1 r2 (okp_ni k2)
      have s3 := f2 z om rz.d (fun z1 z2 e => by
        subst z1 z2
        obtain ⟨p, e', hp⟩ := p2.ref
        exact n3 rfl p (by rw [e, e']) hp) r3
      obtain ⟨am3, U3, _⟩ := PV.put (i := m) U2 s3 (okp_ni k3)
      exact ⟨x, y, z, rfl, R.nx _ _ _ _ _ U3 q⟩
    · refine hc _ am M1 σ δ2 H2 S2 _ q _ fun z rz δ3 H3 S3 e3 o3 v3 ⟨_, k, _⟩ => (k2 k).elim
  · refine hb E am M σ δ1 H1 S1 _ q _ fun y ry δ2 H2 S2 e2 o2 v2 q => ?_
    refine hc _ am M σ δ2 H2 S2 _ q _ fun z rz δ3 H3 S3 e3 o3 v3 ⟨k, _⟩ => (k1 k).elim
end
end L3
namespace L3
open PySem L2
def wLcGo (g : WG) (t : WT) (w : WE) (vs : List Nat) (Q : List D → St3 → Prop) : List D → List D → St3 → Prop
  | [], acc, δ => Q acc δ
  | x :: r, acc, δ => g x δ fun δ1 => t δ1 fun k δ2 =>
    (k = true → w δ2 fun q δ3 => ¬ q.bor ∧ acc.length < 16777216 ∧ wLcGo g t w vs Q r (acc ++ [q.d]) ⟨wipe3 δ3.sl vs, δ3.n⟩) ∧ (k = false → wLcGo g t w vs Q r acc ⟨wipe3 δ2.sl vs, δ2.n⟩)
@[simp] def wLc (wi : WI) (g : WG) (t : WT) (w : WE) (vs : List Nat) : WE := fun δ Q => wi δ fun ds δ1 => noOwn δ1.sl vs ∧
  wLcGo g t w vs (fun acc δ2 => Q (.fr (.lst acc)) ⟨unwipe δ1.sl δ2.sl vs, δ2.n⟩) ds [] ⟨wipe3 δ1.sl vs, δ1.n⟩
@[simp] def wYes : WT := fun δ Q => Q true δ
section
variable {X : Cx} {G : Gx} {K : PySem.W.Frag} {E : Ent}
theorem sim_yes : SimT K G E tYes wYes := fun am M σ δ H S Qd h Q k => k true δ H S .refl (fun _ z => z) h
theorem line16 : sizeLine = 16777216 := by decide
theorem unwipe_own {sl0 sl : List (Option SV)} {n m : Nat} {i : Nat} {vs : List Nat} (no : noOwn sl0 vs) (h : isOwn ⟨unwipe sl0 sl vs, n⟩ i) : isOwn ⟨sl, m⟩ i := by
  obtain ⟨d, h⟩ := h
  rcases unwipe_get h with ⟨_, z⟩ | ⟨z, w⟩
  · exact ⟨d, z⟩
  · exact (no.at z w).elim
theorem sim_lc {ti : TI} {wi : WI} {g : TG} {wg : WG} {us vs : List Nat} {tt : TT} {wt : WT} {te : TE} {we : WE} (hi : ∀ E, SimI K G E ti wi) (hg : SimG K G us g wg) (hu : ∀ u ∈ us, u ∈ vs) (ht : ∀ E, SimT K G E tt wt) (he : ∀ E, SimE K G E te we) : SimE K G E (tLc ti g tt te vs) (wLc wi wg wt we vs) := fun am M σ δ H S Qd q Q k => by
  refine hi E am M σ δ H S _ q _ fun J items gh δ1 H1 S1 e1 o1 ok ⟨no, q⟩ => fun p hp => ?_
  have sm := same_new (o := .lst []) hp
  have T0 := S1.more (p := p) hp sm (by rw [upd_same]; simp)
  have T1 := T0.wiped vs
  have pM : p ∉ M := fun z => S1.al p z hp
  refine ⟨fun i m H => m = items.length - i ∧ i ≤ items.length ∧ ∃ (δ : St3) (acc : List D) (xs : List V), SR K G (E.add gh) am (p :: M) (wipe σ vs) δ H ∧ H p = some (.lst xs) ∧ RepAll K G (mask (p :: M) H) xs acc ∧
      Ext G am δ1 H1 H ∧ (∀ i, isOwn δ i → isOwn δ1 i) ∧ wLcGo wg wt we vs (fun acc δ2 => Qd (.fr (.lst acc)) ⟨unwipe δ1.sl δ2.sl vs, δ2.n⟩) (items.drop i) acc δ,
    ⟨_, rfl, Nat.zero_le _, _, [], [], T1, upd_same, rfl, Ext.of sm, fun i z => wipe3_own z, q⟩, ?_⟩
  rintro i m H ⟨rfl, hle, δ, acc, xs, S, hx, rx, ex, ox, q⟩
  obtain ⟨j1, j2⟩ := ok _ _ _ _ _ _ S fun p hp => List.mem_append_left _ hp
  have pOwn : ∀ i, isOwn δ1 i → am i ≠ p := fun i ⟨d, hi⟩ z => pM (z ▸ (S1.ow i d hi).2.1)
  have pDk : p ∉ G.dk := fun z => pM (S1.ads p (S1.dks p z))
  by_cases hlt : i < items.length
  · have hd : items[i]? = some items[i] := List.getElem?_eq_getElem hlt
    obtain ⟨g1, g2⟩ := j2 i _ hd
    rw [List.drop_eq_getElem_cons hlt] at q
    refine .inr ⟨g1, fun H' => ∃ (δ : St3) (acc : List D) (xs : List V), SR K G (E.add gh) am (p :: M) (wipe σ vs) δ H' ∧ H' p = some (.lst xs) ∧ RepAll K G (mask (p :: M) H') xs acc ∧
      Ext G am δ1 H1 H' ∧ (∀ i, isOwn δ i → isOwn δ1 i) ∧ wLcGo wg wt we vs (fun acc δ2 => Qd (.fr (.lst acc)) ⟨unwipe δ1.sl δ2.sl vs, δ2.n⟩) (items.drop (i + 1)) acc δ, fun H' z => ⟨_, by omega, rfl, hlt, z⟩, fun x H' hy => ?_⟩
    obtain ⟨sm2, rx2⟩ := g2 x H' hy
    have S' := S.grow sm2
    refine hg _ am (p :: M) _ δ H' S' x _ rx2 _ q _ fun σ2 δ2 S2 w2 o2 q => ?_
    have hw : wipe σ2 vs = wipe σ vs := (w2 vs hu).trans wipe_wipe
    refine ⟨hw, ?_⟩
    refine ht _ am (p :: M) σ2 δ2 H' S2 _ q _ fun b δ3 H3 S3 e3 o3 q => ?_
    have keep : ∀ {H4 : Hp} {δ4 : St3}, Ext G am δ4 H' H4 → (∀ i, isOwn δ4 i → isOwn δ1 i) → ∀ o, H p = some o → H4 p = some o := fun e o u hu => e p u (sm2 _ _ hu) pDk fun i hi => pOwn i (o i hi)
    have ext3 : Ext G am δ1 H1 H3 := (ex.trans ox (Ext.of (δ := δ) sm2)).trans (fun i z => ox i (o2 i z)) e3
    have own3 : ∀ i, isOwn δ3 i → isOwn δ1 i := fun i z => ox i (o2 i (o3 i z))
    cases b with
    | false =>
      rw [if_neg Bool.false_ne_true]
      have T := S3.wiped vs
      rw [hw] at T
      exact ⟨_, acc, xs, T, keep e3 (fun i z => ox i (o2 i z)) _ hx, (rx.mono (mask_mono sm2)).mono (S2.mask e3), ext3, fun i z => own3 i (wipe3_own z), q.2 rfl⟩
    | true =>
      rw [if_pos rfl]
      refine he _ am (p :: M) σ2 δ3 H3 S3 _ (q.1 rfl) _ fun y ry δ4 H4 S4 e4 o4 v4 ⟨nb, sz, q⟩ => ?_
      have h4 : H4 p = some (.lst xs) := e4 p _ (keep e3 (fun i z => ox i (o2 i z)) _ hx) pDk fun i hi => pOwn i (own3 i hi)
      have r4 : RepAll K G (mask (p :: M) H4) xs acc := ((rx.mono (mask_mono sm2)).mono (S2.mask e3)).mono (S3.mask e4)
      refine ⟨xs, h4, by rw [r4.length, line16]; exact sz, ?_⟩
      have T4 : SR K G (E.add gh) am (p :: M) σ2 δ4 (upd H4 p (.lst (xs ++ [y]))) := by
        refine ⟨S4.len, fun j d h => ?_, fun j d h => ?_, S4.inj, S4.ads, S4.dks, fun a ha => ?_, fun b o hb kb => ?_, ?_, fun g hg => ?_, S4.slf⟩
        · rw [mask_upd List.mem_cons_self]; exact S4.sh j d h
        · obtain ⟨a1, a2, a3, a4, a5⟩ := S4.ow j d h
          refine ⟨a1, a2, a3, a4, a5.to (by rw [mask_upd List.mem_cons_self]; exact Same.refl _) fun o e => ?_⟩
          rw [upd_ne (pOwn j (own3 j (o4 j ⟨d, h⟩)))]; exact e
        · by_cases z : a = p
          · subst z; rw [upd_same]; simp
          · rw [upd_ne z]; exact S4.al a ha
        · have := S4.base b o hb kb
          have ne : b ≠ p := fun z => by
            subst z
            have h0 := S1.base _ o hb kb
            rw [hp] at h0; cases h0
          rw [upd_ne ne]; exact this
        · refine G.frame _ _ _ (fun a ha o e => ?_) S4.di
          rw [upd_ne fun z => pDk (by rw [← z]; exact ha)]; exact e
        · rw [mask_upd List.mem_cons_self]; exact S4.gh g hg
      have T := T4.wiped vs
      rw [hw] at T
      refine ⟨_, acc ++ [ry.d], xs ++ [y], T, upd_same, ?_, fun b o hb kb ho => ?_, fun i z => own3 i (o4 i (wipe3_own z)), q⟩
      · rw [mask_upd List.mem_cons_self]
        exact r4.append (RepAll.one (v4.k.rep nb))
      · have ne : b ≠ p := fun z => by subst z; rw [hp] at hb; cases hb
        rw [upd_ne ne]
        exact (ext3.trans own3 e4) b o hb kb ho
  · have e : i = items.length := by omega
    subst e
    rw [List.drop_length] at q
    refine .inl ⟨j1 _ rfl, ?_⟩
    have smk : Same (mask (p :: M) H1) (mask (p :: M) H) := mask_same fun b o hb h => ex b o h (fun z => hb (List.mem_cons_of_mem _ (S1.ads b (S1.dks b z)))) fun i ⟨d, hi⟩ z => hb (z ▸ List.mem_cons_of_mem _ (S1.ow i d hi).2.1)
    have B : SR K G (E.add gh) am (p :: M) σ ⟨unwipe δ1.sl δ.sl vs, δ.n⟩ H := S1.back S (fun a z => List.mem_cons_of_mem _ z) no smk fun i d hi v hv => by
      obtain ⟨v', a, b⟩ := S1.sh i d hi
      rw [hv] at a
      cases a
      exact b.mono (mask_new hp (Same.refl _))
    have own : ∀ i, isOwn ⟨unwipe δ1.sl δ.sl vs, δ.n⟩ i → isOwn δ1 i := fun i z => ox i (unwipe_own no z)
    have B2 : SR K G (E.add gh) am M σ ⟨unwipe δ1.sl δ.sl vs, δ.n⟩ H := B.less (fun a z => List.mem_cons_of_mem _ z) S1.ads fun j d h => by
      obtain ⟨d', h'⟩ := own j ⟨d, h⟩
      exact (S1.ow j d' h').2.1
    refine k (.ref p) (.fr (.lst acc)) _ H B2.drop (e1.trans o1 ex) (fun i z => o1 i (own i z)) ⟨p, rfl, pM, ?_, ⟨xs, hx, rx⟩, B.drop⟩ q
    cases z : E.H0 p with
    | none => rfl
    | some o => exact absurd (S1.base p o z pDk) (by rw [hp]; simp)
end
/-- a clause's tests -/
structure DTs (X : Cx) (G : Gx) (ifs : List Expr) (tt : TT) (w : WT) : Prop where
  pt : PTs X ifs tt
  sim : ∀ E, SimT X.K G E tt w
section
variable {X : Cx} {G : Gx} {E : Ent}
theorem dts_nil : DTs X G [] tYes wYes := ⟨pts_nil, fun _ => sim_yes⟩
theorem dts_one {c : Expr} {t : TT} {w : WT} (h : DT X G c t w) : DTs X G [c] t w := ⟨pts_one h.pt, h.sim⟩
variable {elt tg iter : Expr} {ifs : List Expr} {scope : Scope} {own : List (Str × Nat)} {pos spos py : Pos} {ti : TI} {wi : WI} {g : TG} {wg : WG} {us : List Nat} {tt : TT} {wt : WT} {te : TE} {we : WE} {i : Nat} {y : Str}
theorem de_lc (hc : X.calm = true) (hN : X.N.Nodup) (hi : DI X G tg iter ti wi) (ok : BlkOk X.N X.env.scope scope own)
    (hg : ∀ (s : Shared) (H : Hp) (C : Addr) (cl : List (Str × Addr)) (fp : List Addr), DG (X.blk s H scope (compEnvC scope cl C X.env) fp) G tg us g wg) (ht : ∀ (s : Shared) (H : Hp) (C : Addr) (cl : List (Str × Addr)) (fp : List Addr), DTs (X.blk s H scope (compEnvC scope cl C X.env) fp) G ifs tt wt)
    (he : ∀ (s : Shared) (H : Hp) (C : Addr) (cl : List (Str × Addr)) (fp : List Addr), DE (X.blk s H scope (compEnvC scope cl C X.env) fp) G elt te we) (hu : ∀ u ∈ us, u ∈ own.map (·.2)) (hs : ∀ x, foldedSetIterable iter X.env x = pure x := by intro _; rfl) :
    DE X G (.ListComp elt [⟨tg, iter, ifs, 0⟩] scope pos) (tLc ti g tt te (own.map (·.2))) (wLc wi wg wt we (own.map (·.2))) :=
  ⟨pe_lc hc hN hi.pi ok (fun s H C cl fp => (hg s H C cl fp).pg) (fun s H C cl fp => (ht s H C cl fp).pt) (fun s H C cl fp => (he s H C cl fp).pe) hs,
    fun E => sim_lc hi.sim (hg X.s_0 (fun _ => none) 0 [] []).sim hu (ht X.s_0 (fun _ => none) 0 [] []).sim (he X.s_0 (fun _ => none) 0 [] []).sim⟩
theorem ds_setLc (hc : X.calm = true) (hN : X.N.Nodup) (hy : X.N[i]? = some y) (hyl : X.env.scope.names.lookup y = some .local)
    (hsw : swapsWith (.ListComp elt [⟨tg, iter, ifs, 0⟩] scope pos) (some (.Name y py)) spos.line X.env = pure true) (hi : DI X G tg iter ti wi) (ok : BlkOk X.N X.env.scope scope own)
    (hg : ∀ (s : Shared) (H : Hp) (C : Addr) (cl : List (Str × Addr)) (fp : List Addr), DG (X.blk s H scope (compEnvC scope cl C X.env) fp) G tg us g wg) (ht : ∀ (s : Shared) (H : Hp) (C : Addr) (cl : List (Str × Addr)) (fp : List Addr), DTs (X.blk s H scope (compEnvC scope cl C X.env) fp) G ifs tt wt)
    (he : ∀ (s : Shared) (H : Hp) (C : Addr) (cl : List (Str × Addr)) (fp : List Addr), DE (X.blk s H scope (compEnvC scope cl C X.env) fp) G elt te we) (hu : ∀ u ∈ us, u ∈ own.map (·.2)) (hs : ∀ x, foldedSetIterable iter X.env x = pure x := by intro _; rfl) :
    DS X G (.Assign [.Name y py] (.ListComp elt [⟨tg, iter, ifs, 0⟩] scope pos) spos) (tAsg (tLc ti g tt te (own.map (·.2))) (gName i)) (wAsg i (wLc wi wg wt we (own.map (·.2)))) :=
  ⟨ps_setLc hc hN hy hyl hsw hi.pi ok (fun s H C cl fp => (hg s H C cl fp).pg) (fun s H C cl fp => (ht s H C cl fp).pt) (fun s H C cl fp => (he s H C cl fp).pe) hs,
    sim_asg fun E => sim_lc hi.sim (hg X.s_0 (fun _ => none) 0 [] []).sim hu (ht X.s_0 (fun _ => none) 0 [] []).sim (he X.s_0 (fun _ => none) 0 [] []).sim⟩
theorem ds_setLcO (hc : X.calm = true) (hN : X.N.Nodup) (hy : X.N[i]? = some y) (hyl : X.env.scope.names.lookup y = some .local)
    (hsw : swapsWith (.ListComp elt [⟨tg, iter, ifs, 0⟩] scope pos) (some (.Name y py)) spos.line X.env = pure true) (hi : DI X G tg iter ti wi) (ok : BlkOk X.N X.env.scope scope own)
    (hg : ∀ (s : Shared) (H : Hp) (C : Addr) (cl : List (Str × Addr)) (fp : List Addr), DG (X.blk s H scope (compEnvC scope cl C X.env) fp) G tg us g wg) (ht : ∀ (s : Shared) (H : Hp) (C : Addr) (cl : List (Str × Addr)) (fp : List Addr), DTs (X.blk s H scope (compEnvC scope cl C X.env) fp) G ifs tt wt)
    (he : ∀ (s : Shared) (H : Hp) (C : Addr) (cl : List (Str × Addr)) (fp : List Addr), DE (X.blk s H scope (compEnvC scope cl C X.env) fp) G elt te we) (hu : ∀ u ∈ us, u ∈ own.map (·.2)) (hs : ∀ x, foldedSetIterable iter X.env x = pure x := by intro _; rfl) :
    DS X G (.Assign [.Name y py] (.ListComp elt [⟨tg, iter, ifs, 0⟩] scope pos) spos) (tAsg (tLc ti g tt te (own.map (·.2))) (gName i)) (wAsgO i (wLc wi wg wt we (own.map (·.2)))) :=
  ⟨ps_setLc hc hN hy hyl hsw hi.pi ok (fun s H C cl fp => (hg s H C cl fp).pg) (fun s H C cl fp => (ht s H C cl fp).pt) (fun s H C cl fp => (he s H C cl fp).pe) hs,
    sim_asgO fun E => sim_lc hi.sim (hg X.s_0 (fun _ => none) 0 [] []).sim hu (ht X.s_0 (fun _ => none) 0 [] []).sim (he X.s_0 (fun _ => none) 0 [] []).sim⟩

variable {st : Stmt} {sts a b : List Stmt} {e c : Expr} {t u : TS} {w w' : WS}
theorem dss_nil : DSs X G [] tNext wNext := ⟨pss_nil, sim_next⟩
theorem dss_cons (h1 : DS X G st t w) (h2 : DSs X G sts u w') : DSs X G (st :: sts) (tSeq t u) (wSeq w w') := ⟨pss_cons h1.ps h2.ps, sim_seq h1.sim h2.sim⟩
theorem dss_one (h1 : DS X G st t w) : DSs X G [st] t w := ⟨pss_one h1.ps, h1.sim⟩
theorem dss_free (i : Nat) (h1 : DSs X G sts t w) : DSs X G sts t (wFree i w) := ⟨h1.ps, sim_free h1.sim⟩
theorem ds_pass : DS X G (.Pass pos) tNext wNext := ⟨ps_pass, sim_next⟩
theorem ds_break : DS X G (.Break pos) tBreak wBrk := ⟨ps_break, sim_brk⟩
theorem ds_continue : DS X G (.Continue pos) tCont wCnt := ⟨ps_continue, sim_cnt⟩
theorem ds_expr (he : DE X G e te we) (hs : swapsWith e none pos.line X.env = pure false := by rfl) : DS X G (.Expr e pos) (tDrop te) (wDrop we) := ⟨ps_expr he.pe hs, sim_drop he.sim⟩
theorem ds_ret (he : DE X G e te we) : DS X G (.Return (some e) pos) (tRet te) (wRet we) := ⟨ps_ret he.pe, sim_ret he.sim⟩
theorem ds_retN : DS X G (.Return none pos) tRetN wRetN := ⟨ps_retN, sim_retN⟩
theorem ds_if (hc : DT X G c tt wt) (ha : DSs X G a t w) (hb : DSs X G b u w') : DS X G (.If c a b pos) (tIfS tt t u) (wIfS wt w w') := ⟨ps_if hc.pt ha.ps hb.ps, sim_ifS hc.sim ha.sim hb.sim⟩
theorem ds_set (i : Nat) {x : Str} (hN : X.N.Nodup) (he : DE X G e te we) (hi : X.N[i]? = some x := by rfl) (hx : Loc X.env.scope x := by first | exact Or.inl rfl | exact Or.inr rfl) (hs : swapsWith e (some (.Name x py)) pos.line X.env = pure false := by rfl)
    (hf : X.fn x = true ∨ X.env.scope.names.lookup x = some .local := by first | exact .inl rfl | exact .inr rfl) : DS X G (.Assign [.Name x py] e pos) (tAsg te (gName i)) (wAsg i we) := ⟨ps_set hN hi hx he.pe hs hf, sim_asg he.sim⟩
theorem ds_setO (i : Nat) {x : Str} (hN : X.N.Nodup) (he : DE X G e te we) (hi : X.N[i]? = some x := by rfl) (hx : Loc X.env.scope x := by first | exact Or.inl rfl | exact Or.inr rfl) (hs : swapsWith e (some (.Name x py)) pos.line X.env = pure false := by rfl)
    (hf : X.fn x = true ∨ X.env.scope.names.lookup x = some .local := by first | exact .inl rfl | exact .inr rfl) : DS X G (.Assign [.Name x py] e pos) (tAsg te (gName i)) (wAsgO i we) := ⟨ps_set hN hi hx he.pe hs hf, sim_asgO he.sim⟩
theorem ds_asg (he : DE X G e te we) (hg : DG X G tg us g wg) (hs : swapsWithSole [tg] e pos.line X.env = pure false := by rfl) (hw : swappedStores [tg] e X.env = pure none := by rfl)
    (h1 : (assignEach [tg] X.env).map (·.2) = [assign tg X.env] := by rfl) : DS X G (.Assign [tg] e pos) (tAsg te g) (wAsgG wg we) := ⟨ps_asg he.pe hg.pg hs hw h1, sim_asgG he.sim hg.sim⟩
theorem ds_for (hp : PassesOwn (model X.prog X.w) X.A X.env X.xe) (hc : X.calm = true) (hi : DI X G tg iter ti wi) (hg : DG X G tg us g wg) (hb : DSs X G a t w) (hs : ∀ x, foldedSetIterable iter X.env x = pure x := by intro _; rfl) :
    DS X G (.For tg iter a [] pos) (tFor ti g t) (wFor wi wg w) := ⟨ps_for hp hc hi.pi hg.pg hb.ps hs, sim_for hi.sim hg.sim hb.sim⟩
theorem ds_while (hp : PassesOwn (model X.prog X.w) X.A X.env X.xe) (hc : DT X G c tt wt) (hb : DSs X G a t w) : DS X G (.While c a [] pos) (tWhile tt t) (wWhile wt w) := ⟨ps_while hp hc.pt hb.ps, sim_while hc.sim hb.sim⟩
variable {e1 e2 e3 : Expr} {t1 t2 t3 : TE} {w1 w2 w3 : WE} {x y' z : Str} {px py' pz pt pt2 : Pos} {i' j l : Nat} {oi oj ol : Bool}
theorem ds_par2 (i' : Nat) (oi : Bool) (j : Nat) (oj : Bool) {kt k2} (hc : X.calm = true) (hN : X.N.Nodup) (h1 : DE X G e1 t1 w1) (h2 : DE X G e2 t2 w2) (hij : i' ≠ j := by decide) (hi : X.N[i']? = some x := by rfl) (hj : X.N[j]? = some y' := by rfl)
    (hx : X.env.scope.names.lookup x = some .local := by rfl) (hy : X.env.scope.names.lookup y' = some .local := by rfl) (hst : starEach [e1, e2] X.env = (false, eval e1 X.env) :: starEach [e2] X.env := by rfl) (hst2 : starEach [e2] X.env = (false, eval e2 X.env) :: starEach [] X.env := by rfl)
    (hw : swappedStores [.Tuple [.Name x px, .Name y' py'] kt pt] (.Tuple [e1, e2] k2 pt2) X.env = pure (some [x, y']) := by rfl)
    (hs : swapsWithSole [.Tuple [.Name x px, .Name y' py'] kt pt] (.Tuple [e1, e2] k2 pt2) pos.line X.env = pure false := by rfl) :
    DS X G (.Assign [.Tuple [.Name x px, .Name y' py'] kt pt] (.Tuple [e1, e2] k2 pt2) pos) (tPar i' j (tCons t1 (tCons t2 tNil))) (wPar2 i' oi j oj w1 w2) :=
  ⟨ps_par hc hN hi hj hij hx hy (pa_cons h1.pe (pa_cons h2.pe pa_nil hst2) hst) hw hs, sim_par2 h1.sim h2.sim⟩
theorem ds_par3 (i' : Nat) (oi : Bool) (j : Nat) (oj : Bool) (l : Nat) (ol : Bool) {kt k2} (hc : X.calm = true) (hN : X.N.Nodup) (h1 : DE X G e1 t1 w1) (h2 : DE X G e2 t2 w2) (h3 : DE X G e3 t3 w3) (hij : i' ≠ j := by decide) (hil : i' ≠ l := by decide) (hjl : j ≠ l := by decide)
    (hi : X.N[i']? = some x := by rfl) (hj : X.N[j]? = some y' := by rfl) (hl : X.N[l]? = some z := by rfl)
    (hx : X.env.scope.names.lookup x = some .local := by rfl) (hy : X.env.scope.names.lookup y' = some .local := by rfl) (hz : X.env.scope.names.lookup z = some .local := by rfl)
    (hst : starEach [e1, e2, e3] X.env = (false, eval e1 X.env) :: starEach [e2, e3] X.env := by rfl) (hst2 : starEach [e2, e3] X.env = (false, eval e2 X.env) :: starEach [e3] X.env := by rfl) (hst3 : starEach [e3] X.env = (false, eval e3 X.env) :: starEach [] X.env := by rfl)
    (hw : swappedStores [.Tuple [.Name x px, .Name y' py', .Name z pz] kt pt] (.Tuple [e1, e2, e3] k2 pt2) X.env = pure (some [x, y', z]) := by rfl)
    (hs : swapsWithSole [.Tuple [.Name x px, .Name y' py', .Name z pz] kt pt] (.Tuple [e1, e2, e3] k2 pt2) pos.line X.env = pure false := by rfl) :
    DS X G (.Assign [.Tuple [.Name x px, .Name y' py', .Name z pz] kt pt] (.Tuple [e1, e2, e3] k2 pt2) pos) (tPar3 i' j l (tCons t1 (tCons t2 (tCons t3 tNil)))) (wPar3 i' oi j oj l ol w1 w2 w3) :=
  ⟨ps_par3 hc hN hi hj hl hij hil hjl hx hy hz (pa_cons h1.pe (pa_cons h2.pe (pa_cons h3.pe pa_nil hst3) hst2) hst) hw hs, sim_par3 h1.sim h2.sim h3.sim⟩
end
end L3
namespace L3
open PySem L2
mutual
def D.py : D → Option PyData
  | .non => some .none
  | .bl b => some (.bool b)
  | .int i => some (.int i)
  | .str x => some (.str x)
  | .lst ds => (D.pys ds).map .list
  | .tup ds => (D.pys ds).map .tuple
  | .dct _ _ => none
  | .ins _ _ => none
  | .deck => none
  | .cls _ => none
  | .raw _ _ => none
def D.pys : List D → Option (List PyData)
  | [] => some []
  | d :: ds => (D.py d).bind fun p => (D.pys ds).map fun ps => p :: ps
end
section
variable {K : PySem.W.Frag} {G : Gx} {H : Hp}
mutual
theorem Rep.dp : ∀ (d : D) {v : V} {p : PyData}, d.py = some p → Rep K G H v d → Dp K H v p
  | .non, v, p, e, r => by
    have e : p = .none := (Option.some.inj (by simpa [D.py] using e)).symm
    have r : v = .non := r
    subst e r
    exact .non
  | .bl b, v, p, e, r => by
    have e : p = .bool b := (Option.some.inj (by simpa [D.py] using e)).symm
    have r : v = .bl b := r
    subst e r
    exact .bl b
  | .int i, v, p, e, r => by
    have e : p = .int i := (Option.some.inj (by simpa [D.py] using e)).symm
    have r : v = .int i := r
    subst e r
    exact .int i
  | .str x, v, p, e, r => by
    have e : p = .str x := (Option.some.inj (by simpa [D.py] using e)).symm
    have r : v = .str x := r
    subst e r
    exact .str x
  | .lst ds, v, p, e, ⟨a, xs, h1, h2, h3⟩ => by
    unfold D.py at e
    obtain ⟨ps, e1, e2⟩ := Option.map_eq_some_iff.mp e
    subst e2 h1
    exact .lst (SqL.of h2) (RepAll.dp ds e1 h3)
  | .tup ds, v, p, e, ⟨a, xs, h1, h2, h3⟩ => by
    unfold D.py at e
    obtain ⟨ps, e1, e2⟩ := Option.map_eq_some_iff.mp e
    subst e2 h1
    exact .tup h2 (RepAll.dp ds e1 h3)
  | .dct _ _, _, _, e, _ => by simp [D.py] at e
  | .ins _ _, _, _, e, _ => by simp [D.py] at e
  | .deck, _, _, e, _ => by simp [D.py] at e
  | .cls _, _, _, e, _ => by simp [D.py] at e
  | .raw _ _, _, _, e, _ => by simp [D.py] at e
theorem RepAll.dp : ∀ (ds : List D) {vs : List V} {ps : List PyData}, D.pys ds = some ps → RepAll K G H vs ds → DpAll K H vs ps
  | [], vs, ps, e, r => by
    have e : ps = [] := (Option.some.inj (by simpa [D.pys] using e)).symm
    have r : vs = [] := r
    subst e r
    exact .nil
  | d :: ds, vs, ps, e, ⟨x, xs, h1, h2, h3⟩ => by
    unfold D.pys at e
    obtain ⟨p, e1, e2⟩ := Option.bind_eq_some_iff.mp e
    obtain ⟨qs, e3, e4⟩ := Option.map_eq_some_iff.mp e2
    subst e4 h1
    exact .cons (Rep.dp d e1 h2) (RepAll.dp ds e3 h3)
end
theorem pys_ints : ∀ ns : List Int, D.pys (ns.map D.int) = some (ns.map PyData.int)
  | [] => by simp [D.pys]
  | n :: ns => by simp [D.pys, D.py, pys_ints ns]
theorem py_int (i : Int) : (D.int i).py = some (.int i) := by simp [D.py]
theorem py_bl (i : Bool) : (D.bl i).py = some (.bool i) := by simp [D.py]
theorem py_str (i : Str) : (D.str i).py = some (.str i) := by simp [D.py]
theorem py_non : D.non.py = some .none := by simp [D.py]
theorem py_ints (ns : List Int) : (D.lst (ns.map D.int)).py = some (.list (ns.map PyData.int)) := by simp [D.py, pys_ints]
theorem py_tints (ns : List Int) : (D.tup (ns.map D.int)).py = some (.tuple (ns.map PyData.int)) := by simp [D.py, pys_ints]
end

section
variable {K : PySem.W.Frag} {G : Gx} {M : List Addr} {H H' : Hp}
theorem rn_int {i : Int} : RN K G M H H' (.int i) (.sh (.int i)) := rfl
theorem rn_bl {i : Bool} : RN K G M H H' (.bl i) (.sh (.bl i)) := rfl
theorem rn_str {i : Str} : RN K G M H H' (.str i) (.sh (.str i)) := rfl
theorem rn_non : RN K G M H H' .non (.sh .non) := rfl
theorem rn_sh {v : V} {d : D} (h : Rep K G (mask M H') v d) : RN K G M H H' v (.sh d) := h
theorem rn_lst {p : Addr} {xs : List V} {ds : List D} (hp : H p = none) (r : RepAll K G (mask M H) xs ds) : RN K G M H (upd H p (.lst xs)) (.ref p) (.fr (.lst ds)) := ⟨p, rfl, hp, xs, upd_same, r.mono (mask_new hp (same_new hp))⟩
theorem rn_tup {p : Addr} {xs : List V} {ds : List D} (al : ∀ a ∈ M, H a ≠ none) (hp : H p = none) (r : RepAll K G (mask M H) xs ds) : RN K G M H (upd H p (.tup xs)) (.ref p) (.sh (.tup ds)) :=
  ⟨p, xs, rfl, SqT.of (by rw [mask_out fun z => al p z hp, upd_same]), r.mono (mask_mono (same_new hp))⟩
theorem RB.shT {v : V} {ds : List D} (h : RB K G M H v (.tup ds)) : Rep K G (mask M H) v (.tup ds) := by
  rcases h with z | ⟨p, z, w⟩
  · exact z
  · exact w.elim
theorem RB.dp {v : V} {d : D} {p : PyData} (h : RB K G M H v d) (e : d.py = some p) : Dp K H v p := Rep.dp d e h.full
end
def fNeg : F1
  | .int i, Q => Q (.sh (.int (-i)))
  | _, _ => False
@[simp] theorem fNeg_0  (i : Int) (Q : RD → Prop) : fNeg (.int i) Q = (Q (.sh (.int (-i)))) := rfl
def fI (C : Int → Int → Prop) (g : Int → Int → Int) : F2
  | .int i, .int j, Q => C i j ∧ Q (.sh (.int (g i j)))
  | _, _, _ => False
@[simp] theorem fI_0 (C : Int → Int → Prop) (g : Int → Int → Int) (i : Int) (j : Int) (Q : RD → Prop) : fI C g (.int i) (.int j) Q = (C i j ∧ Q (.sh (.int (g i j)))) := rfl
def fIB (g : Int → Int → Bool) : F2
  | .int i, .int j, Q => Q (.sh (.bl (g i j)))
  | _, _, _ => False
@[simp] theorem fIB_0 (g : Int → Int → Bool) (i : Int) (j : Int) (Q : RD → Prop) : fIB g (.int i) (.int j) Q = (Q (.sh (.bl (g i j)))) := rfl
section
variable {X : Cx} {K : PySem.W.Frag} {G : Gx}
theorem ops_I {C : Int → Int → Prop} {g : Int → Int → Int} : OpS K G (rI C fun i j => .int (g i j)) (fI C g) := fun M H x y d e al bx by' Qd h Q k => by
  cases d <;> cases e <;> first | exact h.elim | skip
  obtain ⟨hc, h⟩ := h
  exact ⟨_, _, bx.int, by'.int, hc, k _ _ H (Same.refl _) rn_int h⟩
theorem ops_I0 {g : Int → Int → Int} : OpS K G (rI0 fun i j => .int (g i j)) (fI (fun _ _ => True) g) := fun M H x y d e al bx by' Qd h Q k => by
  cases d <;> cases e <;> first | exact h.elim | skip
  obtain ⟨_, h⟩ := h
  exact ⟨_, _, bx.int, by'.int, k _ _ H (Same.refl _) rn_int h⟩
theorem ops_IB {g : Int → Int → Bool} : OpS K G (rI0 fun i j => .bl (g i j)) (fIB g) := fun M H x y d e al bx by' Qd h Q k => by
  cases d <;> cases e <;> first | exact h.elim | skip
  exact ⟨_, _, bx.int, by'.int, k _ _ H (Same.refl _) rn_bl h⟩
theorem OpS.or {r r' : R2} {f f' g : F2} (h : OpS K G r f) (h' : OpS K G r' f') (hg : ∀ d e Q, g d e Q → f d e Q ∨ f' d e Q) : OpS K G (fun x y H Q => r x y H Q ∨ r' x y H Q) g := fun M H x y d e al bx by' Qd q Q k => by
  rcases hg d e Qd q with q | q
  · exact .inl (h M H x y d e al bx by' Qd q Q k)
  · exact .inr (h' M H x y d e al bx by' Qd q Q k)
def fAdd : F2
  | .int i, .int j, Q => Q (.sh (.int (i + j)))
  | .str i, .str j, Q => i.length + j.length ≤ 16777216 ∧ Q (.sh (.str (i ++ j)))
  | .lst i, .lst j, Q => i.length + j.length ≤ 16777216 ∧ Q (.fr (.lst (i ++ j)))
  | .tup i, .tup j, Q => i.length + j.length ≤ 16777216 ∧ Q (.sh (.tup (i ++ j)))
  | _, _, _ => False
@[simp] theorem fAdd_0  (i : Int) (j : Int) (Q : RD → Prop) : fAdd (.int i) (.int j) Q = (Q (.sh (.int (i + j)))) := rfl
@[simp] theorem fAdd_1  (i : Str) (j : Str) (Q : RD → Prop) : fAdd (.str i) (.str j) Q = (i.length + j.length ≤ 16777216 ∧ Q (.sh (.str (i ++ j)))) := rfl
@[simp] theorem fAdd_2  (i : List D) (j : List D) (Q : RD → Prop) : fAdd (.lst i) (.lst j) Q = (i.length + j.length ≤ 16777216 ∧ Q (.fr (.lst (i ++ j)))) := rfl
@[simp] theorem fAdd_3  (i : List D) (j : List D) (Q : RD → Prop) : fAdd (.tup i) (.tup j) Q = (i.length + j.length ≤ 16777216 ∧ Q (.sh (.tup (i ++ j)))) := rfl
def rAddA (K : PySem.W.Frag) : R2 := fun x y H Q => (rI0 fun i j => .int (i + j)) x y H Q ∨ (∃ i j, x = .str i ∧ y = .str j ∧ i.length + j.length ≤ sizeLine ∧ Q (.str (i ++ j)) H) ∨ rCat x y H Q ∨ rCatA K x y H Q
theorem op_addA : OpR X (binaryOp .Add) (rAddA X.K) := op_add.or (op_add_str.or (op_cat.or op_catA))
theorem ops_add : OpS K G (rAddA K) fAdd := fun M H x y d e al bx by' Qd h Q k => by
  cases d <;> cases e <;> first | exact h.elim | skip
  · exact .inl ⟨_, _, bx.int, by'.int, k _ _ H (Same.refl _) rn_int h⟩
  · obtain ⟨hc, h⟩ := h
    exact .inr (.inl ⟨_, _, bx.str, by'.str, by rw [line16]; exact hc, k _ _ H (Same.refl _) rn_str h⟩)
  · obtain ⟨hc, h⟩ := h
    obtain ⟨a, xs, rfl, ha, ra⟩ := bx.lst
    obtain ⟨b, ys, rfl, hb, rb⟩ := by'.lst
    exact .inr (.inr (.inl ⟨a, b, xs, ys, rfl, rfl, ha, hb, by rw [ra.length, rb.length, line16]; exact hc, fun p hp => k _ _ _ (same_new hp) (rn_lst hp (ra.append rb)) h⟩))
  · obtain ⟨hc, h⟩ := h
    obtain ⟨a, xs, rfl, ha, ra⟩ := bx.tup
    obtain ⟨b, ys, rfl, hb, rb⟩ := by'.tup
    refine .inr (.inr (.inr ⟨a, b, xs, ys, rfl, rfl, ha, hb, by rw [ra.length, rb.length, line16]; exact hc, fun q => ?_, fun _ q => ?_, fun _ _ p hp => k _ _ _ (same_new hp) (rn_tup al hp (ra.append rb)) h⟩))
    · subst q
      have := ra.length
      have e0 := List.length_eq_zero_iff.mp this.symm
      subst e0
      exact k _ _ H (Same.refl _) (rn_sh by'.shT) h
    · subst q
      have := rb.length
      have e0 := List.length_eq_zero_iff.mp this.symm
      subst e0
      rw [List.append_nil] at h
      exact k _ _ H (Same.refl _) (rn_sh bx.shT) h
def fMul : F2
  | .int i, .int j, Q => CMulW i j ∧ Q (.sh (.int (i * j)))
  | .lst ds, .int j, Q => j < 2 ^ 62 ∧ -(2 ^ 62) ≤ j ∧ ds.length * j.toNat ≤ 16777216 ∧ Q (.fr (.lst (List.replicate j.toNat ds).flatten))
  | _, _, _ => False
@[simp] theorem fMul_0  (i : Int) (j : Int) (Q : RD → Prop) : fMul (.int i) (.int j) Q = (CMulW i j ∧ Q (.sh (.int (i * j)))) := rfl
@[simp] theorem fMul_1  (ds : List D) (j : Int) (Q : RD → Prop) : fMul (.lst ds) (.int j) Q = (j < 2 ^ 62 ∧ -(2 ^ 62) ≤ j ∧ ds.length * j.toNat ≤ 16777216 ∧ Q (.fr (.lst (List.replicate j.toNat ds).flatten))) := rfl
def rMulA : R2 := fun x y H Q => (rI CMulW fun i j => .int (i * j)) x y H Q ∨ rRep x y H Q
theorem op_mulA : OpR X (binaryOp .Mult) rMulA := op_mulW.or op_rep
theorem RepAll.rep {M : List Addr} {H : Hp} {xs : List V} {ds : List D} (h : RepAll K G (mask M H) xs ds) : ∀ n : Nat, RepAll K G (mask M H) (List.replicate n xs).flatten (List.replicate n ds).flatten
  | 0 => rfl
  | n + 1 => by
    rw [List.replicate_succ, List.replicate_succ, List.flatten_cons, List.flatten_cons]
    exact h.append (RepAll.rep h n)
theorem ops_mul : OpS K G rMulA fMul := fun M H x y d e al bx by' Qd h Q k => by
  cases d <;> cases e <;> first | exact h.elim | skip
  · obtain ⟨hc, h⟩ := h
    exact .inl ⟨_, _, bx.int, by'.int, hc, k _ _ H (Same.refl _) rn_int h⟩
  · obtain ⟨h1, h2, h3, h⟩ := h
    obtain ⟨a, xs, rfl, ha, ra⟩ := bx.lst
    exact .inr ⟨a, _, xs, rfl, by'.int, ha, by omega, by omega, by rw [ra.length, line16]; exact h3, fun p hp => k _ _ _ (same_new hp) (rn_lst hp (ra.rep _)) h⟩
/-- // by anything but 0 below 2 ^ 9000 -/
def CDivA (_ j : Int) : Prop := j ≠ 0 ∧ j.natAbs.log2 < 9000
theorem op_fdivA : OpR X (binaryOp .FloorDiv) (rI CDivA fun i j => .int (i.fdiv j)) := opI fun _ _ _ _ _ _ _ hc q => PyProof.Rows.floordiv_int hc.1 q (.inl (PyProof.noPylong_of_log2 hc.2))
def eqD (neg : Bool) (d e : D) (Q : RD → Prop) : Prop := ∃ p q, d.py = some p ∧ e.py = some q ∧ SeqAt.shaped p = true ∧ SeqAt.shaped q = true ∧ Q (.sh (.bl (if neg then !PyData.eqv p q else PyData.eqv p q)))
def fEq (neg : Bool) : F2
  | .int i, .int j, Q => Q (.sh (.bl (if neg then !decide (i = j) else decide (i = j))))
  | .str i, .str j, Q => Q (.sh (.bl (if neg then !decide (i = j) else decide (i = j))))
  | .bl i, .bl j, Q => Q (.sh (.bl (if neg then !decide (i = j) else decide (i = j))))
  | d, e, Q => eqD neg d e Q
@[simp] theorem fEq_0 (neg : Bool) (i : Int) (j : Int) (Q : RD → Prop) : fEq neg (.int i) (.int j) Q = (Q (.sh (.bl (if neg then !decide (i = j) else decide (i = j))))) := rfl
@[simp] theorem fEq_1 (neg : Bool) (i : Str) (j : Str) (Q : RD → Prop) : fEq neg (.str i) (.str j) Q = (Q (.sh (.bl (if neg then !decide (i = j) else decide (i = j))))) := rfl
@[simp] theorem fEq_2 (neg : Bool) (i : Bool) (j : Bool) (Q : RD → Prop) : fEq neg (.bl i) (.bl j) Q = (Q (.sh (.bl (if neg then !decide (i = j) else decide (i = j))))) := rfl
@[simp] theorem fEq_lst (neg : Bool) (a b : List D) (Q : RD → Prop) : fEq neg (.lst a) (.lst b) Q = eqD neg (.lst a) (.lst b) Q := rfl
@[simp] theorem fEq_tup (neg : Bool) (a b : List D) (Q : RD → Prop) : fEq neg (.tup a) (.tup b) Q = eqD neg (.tup a) (.tup b) Q := rfl
def rEqA (K : PySem.W.Frag) : R2 := fun x y H Q => rEq x y H Q ∨ rEqD K x y H Q
def rNeA (K : PySem.W.Frag) : R2 := fun x y H Q => rNe x y H Q ∨ rNeD K x y H Q
theorem op_eqA (hu : X.A.units + 64 < cLine) : OpR X (compareOp .Eq) (rEqA X.K) := op_eq.or (op_eqD hu)
theorem op_neA (hu : X.A.units + 64 < cLine) : OpR X (compareOp .NotEq) (rNeA X.K) := op_ne.or (op_neD hu)
theorem dec_i {i j : Int} : decide (V.int i = V.int j) = decide (i = j) := by simp
theorem dec_s {i j : Str} : decide (V.str i = V.str j) = decide (i = j) := by simp
theorem dec_b {i j : Bool} : decide (V.bl i = V.bl j) = decide (i = j) := by simp
theorem ops_eq : OpS K G (rEqA K) (fEq false) := fun M H x y d e al bx by' Qd h Q k => by
  have deep : (∃ p q, d.py = some p ∧ e.py = some q ∧ SeqAt.shaped p = true ∧ SeqAt.shaped q = true ∧ Qd (.sh (.bl (PyData.eqv p q)))) → rEqA K x y H Q := fun ⟨p, q, e1, e2, s1, s2, z⟩ =>
    .inr ⟨p, q, bx.dp e1, by'.dp e2, s1, s2, k _ _ H (Same.refl _) rn_bl z⟩
  cases d <;> cases e <;> first
    | exact deep h
    | exact .inl (by
        have e1 := bx.int
        have e2 := by'.int
        subst e1 e2
        exact ⟨rfl, by rw [dec_i]; exact k _ _ H (Same.refl _) rn_bl h⟩)
    | exact .inl (by
        have e1 := bx.str
        have e2 := by'.str
        subst e1 e2
        exact ⟨rfl, by rw [dec_s]; exact k _ _ H (Same.refl _) rn_bl h⟩)
    | exact .inl (by
        have e1 := bx.bl
        have e2 := by'.bl
        subst e1 e2
        exact ⟨rfl, by rw [dec_b]; exact k _ _ H (Same.refl _) rn_bl h⟩)
theorem ops_ne : OpS K G (rNeA K) (fEq true) := fun M H x y d e al bx by' Qd h Q k => by
  have deep : (∃ p q, d.py = some p ∧ e.py = some q ∧ SeqAt.shaped p = true ∧ SeqAt.shaped q = true ∧ Qd (.sh (.bl (!PyData.eqv p q)))) → rNeA K x y H Q := fun ⟨p, q, e1, e2, s1, s2, z⟩ =>
    .inr ⟨p, q, bx.dp e1, by'.dp e2, s1, s2, k _ _ H (Same.refl _) rn_bl z⟩
  cases d <;> cases e <;> first
    | exact deep h
    | exact .inl (by
        have e1 := bx.int
        have e2 := by'.int
        subst e1 e2
        exact ⟨rfl, by rw [dec_i]; exact k _ _ H (Same.refl _) rn_bl h⟩)
    | exact .inl (by
        have e1 := bx.str
        have e2 := by'.str
        subst e1 e2
        exact ⟨rfl, by rw [dec_s]; exact k _ _ H (Same.refl _) rn_bl h⟩)
    | exact .inl (by
        have e1 := bx.bl
        have e2 := by'.bl
        subst e1 e2
        exact ⟨rfl, by rw [dec_b]; exact k _ _ H (Same.refl _) rn_bl h⟩)
def fIs (neg : Bool) : F2
  | .non, .non, Q => Q (.sh (.bl (!neg)))
  | _, .non, Q => Q (.sh (.bl neg))
  | _, _, _ => False
@[simp] theorem fIs_0 (neg : Bool) (Q : RD → Prop) : fIs neg .non .non Q = (Q (.sh (.bl (!neg)))) := rfl
@[simp] theorem fIs_int (neg : Bool) (x : Int) (Q : RD → Prop) : fIs neg (.int x) .non Q = Q (.sh (.bl neg)) := rfl
@[simp] theorem fIs_str (neg : Bool) (x : Str) (Q : RD → Prop) : fIs neg (.str x) .non Q = Q (.sh (.bl neg)) := rfl
@[simp] theorem fIs_bl (neg : Bool) (x : Bool) (Q : RD → Prop) : fIs neg (.bl x) .non Q = Q (.sh (.bl neg)) := rfl
@[simp] theorem fIs_lst (neg : Bool) (x : List D) (Q : RD → Prop) : fIs neg (.lst x) .non Q = Q (.sh (.bl neg)) := rfl
@[simp] theorem fIs_tup (neg : Bool) (x : List D) (Q : RD → Prop) : fIs neg (.tup x) .non Q = Q (.sh (.bl neg)) := rfl
theorem ops_isN : OpS K G (fun x y H Q => y = .non ∧ Q (.bl (decide (x = .non))) H) (fIs false) := fun M H x y d e al bx by' Qd h Q k => by
  have fin : ∀ b, decide (x = V.non) = b → Qd (.sh (.bl b)) → Q (.bl (decide (x = V.non))) H := fun b e q => by rw [e]; exact k _ _ H (Same.refl _) rn_bl q
  cases e <;> first | (cases d <;> exact h.elim) | skip
  refine ⟨by'.non, ?_⟩
  cases d with
  | non => exact fin true (by rw [bx.non]; rfl) h
  | bl b => exact fin false (by rw [bx.bl]; rfl) h
  | int b => exact fin false (by rw [bx.int]; rfl) h
  | str b => exact fin false (by rw [bx.str]; rfl) h
  | lst b => obtain ⟨p, _, e, _⟩ := bx.lst; exact fin false (by rw [e]; rfl) h
  | tup b => obtain ⟨p, _, e, _⟩ := bx.tup; exact fin false (by rw [e]; rfl) h
  | dct a b => obtain ⟨p, _, e, _⟩ := bx.dct; exact fin false (by rw [e]; rfl) h
  | ins a b => obtain ⟨p, _, _, e, _⟩ := bx.full; exact fin false (by rw [e]; rfl) h
  | deck => exact fin false (by rw [show x = V.ref G.deck from bx.full]; rfl) h
  | cls b => exact fin false (by rw [show x = V.ref (G.cls b) from bx.full]; rfl) h
  | raw p o => obtain ⟨e, _⟩ := bx.full; exact fin false (by rw [e]; rfl) h
theorem ops_notN : OpS K G (fun x y H Q => y = .non ∧ Q (.bl (!decide (x = .non))) H) (fIs true) := fun M H x y d e al bx by' Qd h Q k => by
  have fin : ∀ b, decide (x = V.non) = (!b) → Qd (.sh (.bl b)) → Q (.bl (!decide (x = V.non))) H := fun b e q => by rw [e, Bool.not_not]; exact k _ _ H (Same.refl _) rn_bl q
  cases e <;> first | (cases d <;> exact h.elim) | skip
  refine ⟨by'.non, ?_⟩
  cases d with
  | non => exact fin false (by rw [bx.non]; rfl) h
  | bl b => exact fin true (by rw [bx.bl]; rfl) h
  | int b => exact fin true (by rw [bx.int]; rfl) h
  | str b => exact fin true (by rw [bx.str]; rfl) h
  | lst b => obtain ⟨p, _, e, _⟩ := bx.lst; exact fin true (by rw [e]; rfl) h
  | tup b => obtain ⟨p, _, e, _⟩ := bx.tup; exact fin true (by rw [e]; rfl) h
  | dct a b => obtain ⟨p, _, e, _⟩ := bx.dct; exact fin true (by rw [e]; rfl) h
  | ins a b => obtain ⟨p, _, _, e, _⟩ := bx.full; exact fin true (by rw [e]; rfl) h
  | deck => exact fin true (by rw [show x = V.ref G.deck from bx.full]; rfl) h
  | cls b => exact fin true (by rw [show x = V.ref (G.cls b) from bx.full]; rfl) h
  | raw p o => obtain ⟨e, _⟩ := bx.full; exact fin true (by rw [e]; rfl) h
def D.flat : D → Bool
  | .non => true
  | .bl _ => true
  | .int _ => true
  | .str _ => true
  | _ => false
def D.v : D → V
  | .bl b => .bl b
  | .int i => .int i
  | .str x => .str x
  | _ => .non
def inD (d : D) (ds : List D) : Bool := inV d.v (ds.map D.v)
theorem RB.flat {M : List Addr} {H : Hp} {v : V} {d : D} (h : RB K G M H v d) (f : d.flat = true) : v = d.v ∧ flatV v = true := by
  cases d with
  | non => have := h.non; subst this; exact ⟨rfl, rfl⟩
  | bl b => have := h.bl; subst this; exact ⟨rfl, rfl⟩
  | int b => have := h.int; subst this; exact ⟨rfl, rfl⟩
  | str b => have := h.str; subst this; exact ⟨rfl, rfl⟩
  | _ => cases f
theorem RepAll.flat {H : Hp} : ∀ {ds : List D} {xs : List V}, RepAll K G H xs ds → (ds.all D.flat) = true → xs = ds.map D.v ∧ xs.all flatV = true
  | [], xs, h, _ => by
    have h : xs = [] := h
    subst h; exact ⟨rfl, rfl⟩
  | d :: ds, xs, ⟨x, ys, e, r, t⟩, f => by
    subst e
    rw [List.all_cons, Bool.and_eq_true] at f
    obtain ⟨a, b⟩ := t.flat f.2
    obtain ⟨a', b'⟩ := RB.flat (M := []) (H := H) (.inl (r.mono fun b o e => by rw [mask_out (by simp)]; exact e)) f.1
    subst a a'
    exact ⟨rfl, by rw [List.all_cons, b', b]; rfl⟩
def fIn (neg : Bool) : F2
  | d, .lst ds, Q => d.flat = true ∧ ds.all D.flat = true ∧ Q (.sh (.bl (if neg then !inD d ds else inD d ds)))
  | d, .tup ds, Q => d.flat = true ∧ ds.all D.flat = true ∧ Q (.sh (.bl (if neg then !inD d ds else inD d ds)))
  | _, _, _ => False
@[simp] theorem fIn_0 (neg : Bool) (d : D) (ds : List D) (Q : RD → Prop) : fIn neg d (.lst ds) Q = (d.flat = true ∧ ds.all D.flat = true ∧ Q (.sh (.bl (if neg then !inD d ds else inD d ds)))) := rfl
@[simp] theorem fIn_1 (neg : Bool) (d : D) (ds : List D) (Q : RD → Prop) : fIn neg d (.tup ds) Q = (d.flat = true ∧ ds.all D.flat = true ∧ Q (.sh (.bl (if neg then !inD d ds else inD d ds)))) := rfl
theorem ops_in {neg : Bool} : OpS K G (rIn K neg) (fIn neg) := fun M H x y d e al bx by' Qd h Q k => by
  cases e <;> first | exact h.elim | skip
  · obtain ⟨f1, f2, h⟩ := h
    obtain ⟨a, xs, rfl, ha, ra⟩ := by'.lst
    obtain ⟨e1, e2⟩ := bx.flat f1
    obtain ⟨e3, e4⟩ := ra.flat f2
    refine ⟨a, xs, rfl, .inl (SqL.of ha), e2, e4, ?_⟩
    rw [e1, e3]
    exact k _ _ H (Same.refl _) rn_bl h
  · obtain ⟨f1, f2, h⟩ := h
    obtain ⟨a, xs, rfl, ha, ra⟩ := by'.tup
    obtain ⟨e1, e2⟩ := bx.flat f1
    obtain ⟨e3, e4⟩ := ra.flat f2
    refine ⟨a, xs, rfl, .inr ha, e2, e4, ?_⟩
    rw [e1, e3]
    exact k _ _ H (Same.refl _) rn_bl h
def fIx : F2
  | .lst ds, .int i, Q => ∃ x, atI ds i = some x ∧ Q (.sh x)
  | .tup ds, .int i, Q => ∃ x, atI ds i = some x ∧ Q (.sh x)
  | .str z, .int i, Q => ∃ c, z.length ≤ 16777216 ∧ atI z.cps.toList i = some c ∧ Q (.sh (.str ⟨#[c]⟩))
  | _, _, _ => False
@[simp] theorem fIx_0  (ds : List D) (i : Int) (Q : RD → Prop) : fIx (.lst ds) (.int i) Q = (∃ x, atI ds i = some x ∧ Q (.sh x)) := rfl
@[simp] theorem fIx_1  (ds : List D) (i : Int) (Q : RD → Prop) : fIx (.tup ds) (.int i) Q = (∃ x, atI ds i = some x ∧ Q (.sh x)) := rfl
@[simp] theorem fIx_2  (z : Str) (i : Int) (Q : RD → Prop) : fIx (.str z) (.int i) Q = (∃ c, z.length ≤ 16777216 ∧ atI z.cps.toList i = some c ∧ Q (.sh (.str ⟨#[c]⟩))) := rfl
theorem RepAll.atI {H : Hp} {xs : List V} {ds : List D} {i : Int} {d : D} (r : RepAll K G H xs ds) (h : L2.atI ds i = some d) : ∃ v, L2.atI xs i = some v ∧ Rep K G H v d := by
  unfold L2.atI at h ⊢
  rw [r.length]
  obtain ⟨j, h1, h2⟩ := Option.bind_eq_some_iff.mp h
  obtain ⟨v, h3, h4⟩ := r.get h2
  exact ⟨v, by rw [h1]; exact h3, h4⟩
theorem ops_ix : OpS K G (rIx K) fIx := fun M H x y d e al bx by' Qd h Q k => by
  cases d <;> cases e <;> first | exact h.elim | skip
  · obtain ⟨c, h1, h2, h⟩ := h
    exact .inr (.inr ⟨_, _, c, bx.str, by'.int, by rw [line16]; exact h1, h2, k _ _ H (Same.refl _) rn_str h⟩)
  · obtain ⟨x, h1, h⟩ := h
    obtain ⟨a, xs, rfl, ha, ra⟩ := bx.lst
    obtain ⟨v, h2, rv⟩ := ra.atI h1
    exact .inl ⟨a, xs, _, v, rfl, by'.int, SqL.of ha, h2, k _ _ H (Same.refl _) (rn_sh rv) h⟩
  · obtain ⟨x, h1, h⟩ := h
    obtain ⟨a, xs, rfl, ha, ra⟩ := bx.tup
    obtain ⟨v, h2, rv⟩ := ra.atI h1
    exact .inr (.inl ⟨a, xs, _, v, rfl, by'.int, ha, h2, k _ _ H (Same.refl _) (rn_sh rv) h⟩)
variable {a b : Expr} {ta tb : TE} {wa wb : WE} {pos : Pos}
theorem de_ix (ha : DE X G a ta wa) (hb : DE X G b tb wb) (hs : PlainIx b := by exact fun _ _ => rfl) : DE X G (.Subscript a b pos) (tOp (rIx X.K) ta tb) (wOp fIx wa wb) := ⟨pe_ix ix_seq ha.pe hb.pe hs, fun E => sim_op ops_ix (ha.sim E) (hb.sim E)⟩
theorem de_add (ha : DE X G a ta wa) (hb : DE X G b tb wb) : DE X G (.BinOp a .Add b pos) (tOp (rAddA X.K) ta tb) (wOp fAdd wa wb) := de_op op_addA ops_add ha hb
theorem de_sub (ha : DE X G a ta wa) (hb : DE X G b tb wb) : DE X G (.BinOp a .Sub b pos) (tOp (rI0 fun i j => .int (i - j)) ta tb) (wOp (fI (fun _ _ => True) fun i j => i - j) wa wb) := de_op op_sub ops_I0 ha hb
theorem de_mul (ha : DE X G a ta wa) (hb : DE X G b tb wb) : DE X G (.BinOp a .Mult b pos) (tOp rMulA ta tb) (wOp fMul wa wb) := de_op op_mulA ops_mul ha hb
theorem de_fdiv (ha : DE X G a ta wa) (hb : DE X G b tb wb) : DE X G (.BinOp a .FloorDiv b pos) (tOp (rI CDivA fun i j => .int (i.fdiv j)) ta tb) (wOp (fI CDivA Int.fdiv) wa wb) := de_op op_fdivA ops_I ha hb
theorem de_mod (ha : DE X G a ta wa) (hb : DE X G b tb wb) : DE X G (.BinOp a .Mod b pos) (tOp (rI (fun _ j => j ≠ 0) fun i j => .int (i.fmod j)) ta tb) (wOp (fI (fun _ j => j ≠ 0) Int.fmod) wa wb) := de_op op_modN ops_I ha hb
theorem de_pow (ha : DE X G a ta wa) (hb : DE X G b tb wb) : DE X G (.BinOp a .Pow b pos) (tOp (rI CPow fun i j => .int (i ^ j.toNat)) ta tb) (wOp (fI CPow fun i j => i ^ j.toNat) wa wb) := de_op op_pow ops_I ha hb
theorem de_neg (ha : DE X G a ta wa) : DE X G (.UnaryOp .USub a pos) (tUn (rU fun i => .int (-i)) ta) (wUn fNeg wa) := de_un un_neg (fun M H x d al bx Qd h Q k => by
  cases d <;> first | exact h.elim | skip
  exact ⟨_, bx.int, k _ _ H (Same.refl _) rn_int h⟩) ha
end
end L3
namespace L3
open PySem L2
@[simp] abbrev fLt : F2 := fIB fun i j => decide (i < j)
@[simp] abbrev fLe : F2 := fIB fun i j => decide (i ≤ j)
@[simp] abbrev fGt : F2 := fIB fun i j => decide (j < i)
@[simp] abbrev fGe : F2 := fIB fun i j => decide (j ≤ i)
@[simp] abbrev fSub : F2 := fI (fun _ _ => True) fun i j => i - j
@[simp] abbrev fFdiv : F2 := fI CDivA Int.fdiv
@[simp] abbrev fMod : F2 := fI (fun _ j => j ≠ 0) Int.fmod
@[simp] abbrev fPow : F2 := fI CPow fun i j => i ^ j.toNat
end L3
namespace L3
open PySem PySem.Spec PyProof.Rows L2
structure FnG (P : Program) (w : World) (K : PySem.W.Frag) (mg : Str → Option Value) (base : Heap) (CX : CXT) (k : Nat) (f : Addr) (fd : FuncData) (ps : List Str) (sp : Sp) : Prop where
  len : ∀ vs H Q E, sp vs H Q E → vs.length = ps.length
  go : ∀ (A : Around) (outer : List Env) (s : Shared) (H : Hp) (args : Args) (us : List Value) (vs : List V) (Q : VK) (E : XK), (Room k A ∧ A.guards = some []) → Env0 P w K mg base A outer s H →
    BindsTo s fd args (ps.zip us) → Vals vs us → sp vs H Q E → codeAny (model P w) A (.call (.ref f) args) (CR CX outer P w H s Q E) s
/-- a def of the text as it stands -/
def FunB (K : PySem.W.Frag) (x qual : Str) (params : Arguments) (body : List Stmt) (scope : Scope) (f : Addr) (fd : FuncData) : Prop :=
  ∃ (oc : Value) (od : Option Addr) (dV kV doc pm : Value) (an : Option Addr) (cdv ct : Value) (osl : Array (Option Value)),
    fd = PySem.W.fnOf x qual params body scope dV kV doc pm an cdv ct ∧ K.lookup f = some ⟨oc, od, .func fd, osl⟩ ∧ PySem.W.codeIn K cdv qual = true
theorem FunB.ofD {K : PySem.W.Frag} {x qual : Str} {params : Arguments} {body : List Stmt} {scope : Scope} {dvs : List V} {kws : List (Str × V)} {f : Addr} {fd : FuncData} (F : FunD K x qual params body scope dvs kws f fd) : FunB K x qual params body scope f fd := by
  obtain ⟨oc, od, dV, kV, doc, pm, an, cdv, ct, osl, h1, h2, h3, _⟩ := F.ex
  exact ⟨oc, od, dV, kV, doc, pm, an, cdv, ct, osl, h1, h2, h3⟩
theorem FunB.of {K : PySem.W.Frag} {x qual : Str} {st : Stmt} {f : Addr} {fd : FuncData} (F : Fun K x qual st f fd) : FunB K x qual (defArgs st) (defBody st) (defScope st) f fd := by
  obtain ⟨oc, od, kV, doc, pm, an, cdv, ct, osl, h1, h2, h3⟩ := F.ex
  exact ⟨oc, od, _, kV, doc, pm, an, cdv, ct, osl, h1, h2, h3⟩
section
variable {P : Program} {w : World} {K : PySem.W.Frag} {mg : Str → Option Value} {base : Heap} {CX : CXT} {k : Nat} {f : Addr} {fd : FuncData} {ps N : List Str} {sp : Sp} {x qual : Str} {params : Arguments} {body : List Stmt} {scope : Scope}
/-- a def keeps its promise if its body does -/
theorem FnG.of (F : FunB K x qual params body scope f fd) (S : FnScope N ps scope) (len : ∀ vs H Q E, sp vs H Q E → vs.length = ps.length)
    (hb : ∀ (cdv : Value) (A : Around) (outer : List Env) (s : Shared) (H : Hp) (vs : List V) (Q : VK) (E : XK), Room k (A.deeper (envOfC qual scope s.heap.objs.size f cdv)) → A.guards = some [] → sp vs H Q E →
      ∃ t, PSs (cxOf CX P w K mg base N qual scope f cdv A outer s H E) body t ∧ t { nx := fun _ H' => Q .non H', rt := Q } (start N vs) H) : FnG P w K mg base CX (k + 1) f fd ps sp := by
  obtain ⟨oc, od, dV, kV, doc, pm, an, cdv, ct, osl, rfl, lk, hcd⟩ := F
  refine ⟨len, fun A outer s H args us vs Q E ⟨hr, hg⟩ e0 bt r hsp => ?_⟩
  have hl := len vs H Q E hsp
  have keepB : ∀ b o, base.get? b = some o → s.heap.get? b = some o := fun b o e => (e0.bs b o e).1
  have kx : K.In s.heap := e0.mod.kin.keeps keepB
  have nl : s.heap.NoLimit := e0.mod.nolimit.keeps keepB
  refine codeAny_call_function hr.depth (kx _ _ lk) rfl S.co S.gen rfl (PySem.W.codeRec_of kx hcd) (bt _ _ _ _ ?_)
  have kinds : ∀ y ∈ ps.zip us, scope.names.lookup y.1 = some .local ∨ (scope.names.lookup y.1 = some .cell ∧ ((cellsFrom (s.heap.objs.size + 1) scope.names []).lookup y.1).isSome = true) := by
    rintro ⟨n, v⟩ hy
    exact (S.par n (List.of_mem_zip hy).1).imp_right fun q => ⟨q, PySem.W.cellsFrom_some _ _ _ (.inl q)⟩
  refine wpAny_newFunctionEnv_cells S.kind kinds fun env he s1 ic => ?_
  subst he
  refine ⟨nl.keeps ic.toInCall.keep, codeAny_func ?_⟩
  obtain ⟨t, ht, hq⟩ := hb cdv A outer s H vs Q E (hr.deeper _) hg hsp
  have J0 : Inv (cxOf CX P w K mg base N qual scope f cdv A outer s H E) [] (start N vs) H s1 := inv_start S hr.hd e0 hl r ic
  refine wpAny_mono (ht.run [] s1 (start N vs) H _ J0 hq) (fun fl s' hs => ?_) fun _ _ z => z
  cases fl with
  | ret u => obtain ⟨v, σ', H', J, rv, q⟩ := hs; exact ⟨v, H', J.os, J.bare, J.base, J.hok, rv, q⟩
  | next => obtain ⟨σ', H', J, q⟩ := hs; exact ⟨V.non, H', J.os, J.bare, J.base, J.hok, rfl, q⟩
  | brk => obtain ⟨_, _, _, q⟩ := hs; cases q
  | cont => obtain ⟨_, _, _, q⟩ := hs; cases q
theorem FnG.mono {j : Nat} (F : FnG P w K mg base CX j f fd ps sp) (h : j ≤ k) : FnG P w K mg base CX k f fd ps sp := ⟨F.len, fun A outer s H args us vs Q E ⟨hr, hg⟩ => F.go A outer s H args us vs Q E ⟨hr.mono h, hg⟩⟩
theorem FnG.ofOk (F : FnOk P w K mg base CX k f fd ps sp) : FnG P w K mg base CX k f fd ps sp := ⟨F.len, fun A outer s H args us vs Q E ⟨hr, _⟩ => F.run A outer s H args us vs Q E hr⟩
end
section
variable {X : Cx} {CX : CXT} {k : Nat} {f C : Addr} {fd : FuncData} {ps ks : List Str} {sp : Sp} {dvs : List V} {ds : List Value} {E : XK} {x m : Str} {p pos apos : Pos} {e o : Expr} {es : List Expr} {kws : List Keyword} {ta : TE} {t tk : TA}
theorem FnG.call {pins : List (Addr × Obj)} {σ : L2.St} {H : Hp} {s : Shared} {Q : VK} {args : Args} {us : List Value} {vs : List V} (F : FnG X.prog X.w X.K X.mg X.base CX k f fd ps sp) (hr : Room k X.A) (hg : X.A.guards = some []) (hx : Passes CX X E)
    (I : Inv X pins σ H s) (bt : us.length = ps.length → BindsTo s fd args (ps.zip us)) (r : Vals vs us) (h : sp vs H Q E) : codeAny (model X.prog X.w) X.A (.call (.ref f) args) (fun q s' => match q with | .ok (.ret u) => EP X pins σ Q u s' | .ok _ => False | .error e => X.xe e s') s := by
  have hl : us.length = ps.length := by rw [← r.length]; exact F.len vs H Q E h
  refine codeAny_mono (F.go X.A X.stack s H args us vs Q E ⟨hr, hg⟩ I.env0 (bt hl) r h) fun q s' hq => ?_
  cases q with
  | error e => exact hx pins σ H s e s' I hq
  | ok fl => cases fl with
    | ret u => exact I.after hq
    | next => cases hq
    | brk => cases hq
    | cont => cases hq
theorem wp_of_code {α : Type} {M : Model} {A : Around} {fv : Value} {us : List Value} {kw : List (Str × Value)} {Q : Value → Shared → Prop} {E' : Value → Shared → Prop} {s : Shared}
    (h : codeAny M A (.call fv ⟨us, kw⟩) (fun q s' => match q with | .ok (.ret u) => Q u s' | .ok _ => False | .error e => E' e s') s) : wpAny M A (PySem.call fv us kw) Q E' s := by
  refine wpAny_call (codeAny_mono h fun q s' hq => ?_)
  cases q with
  | error e => exact hq
  | ok fl => cases fl with
    | ret u => exact hq
    | next => cases hq
    | brk => cases hq
    | cont => cases hq
theorem pg_call (F : FnG X.prog X.w X.K X.mg X.base CX k f fd ps sp) (hr : Room k X.A) (hg : X.A.guards = some []) (gl : Gl X x) (hm : X.mg x = some (.ref f)) (hk : PySem.W.keepIn X.K (.ref f) = true) (hb : Binds X.K fd ps ds) (hd : Vals dvs ds) (hx : Passes CX X E)
    (ha : PA X (e :: es) t) (hdb : (x == ("__debug__" : Str)) = false := by decide) (he : starEach (e :: es) X.env = (false, eval e X.env) :: starEach es X.env := by rfl) (hpl : (backTo pos (starEach es X.env)).any (·.1) = false := by rfl) :
    PE X (.Call (.Name x p) (e :: es) [] pos) (tCall sp dvs E t) :=
  ⟨fun pins s σ H Q I h => wpAny_Call_Name_kw (ld_glob I gl hm (PySem.W.callWith_K (h₀ := X.base) I.ok.mod.kin hk (thn (ha.run pos pins s σ H _ I h) fun us s1 ⟨vs, H1, I1, r, q⟩ =>
    ⟨I1.kIn, wp_of_code (α := Unit) (F.call hr hg hx I1 (fun hl => hb s1 us I1.kIn hl) (r.append hd) q)⟩) he hpl) hdb)⟩
theorem pg_call0 (F : FnG X.prog X.w X.K X.mg X.base CX k f fd ps sp) (hr : Room k X.A) (hg : X.A.guards = some []) (gl : Gl X x) (hm : X.mg x = some (.ref f)) (hk : PySem.W.keepIn X.K (.ref f) = true) (hb : Binds X.K fd ps ds) (hd : Vals dvs ds) (hx : Passes CX X E)
    (hdb : (x == ("__debug__" : Str)) = false := by decide) : PE X (.Call (.Name x p) [] [] pos) (tCall sp dvs E tNil) :=
  ⟨fun pins s σ H Q I h => wpAny_Call_Name_kw (ld_glob I gl hm (PySem.W.callWith_K0 I.kIn hk (wp_of_code (α := Unit) (F.call (args := ⟨[], []⟩) hr hg hx I (fun hl => hb s [] I.kIn hl) (us := [] ++ ds) (vs := [] ++ dvs) hd h))) hdb)⟩
/-- the values of some places -/
@[simp] def pick {α : Type} (perm : List Nat) (l : List α) : List α := perm.filterMap fun i => l[i]?
theorem pick_vals {perm : List Nat} {vs : List V} {us : List Value} (r : Vals vs us) : Vals (pick perm vs) (pick perm us) := by
  induction perm with
  | nil => exact .nil
  | cons i perm ih =>
    unfold pick at ih ⊢
    cases q : vs[i]? with
    | none =>
      rw [List.filterMap_cons_none q, List.filterMap_cons_none (r.none_of q)]
      exact ih
    | some v =>
      obtain ⟨u, hu, ru⟩ := r.get q
      rw [List.filterMap_cons_some q, List.filterMap_cons_some hu]
      exact .cons ru ih
/-- how a call with keywords binds: n values, then those of the keywords ks, then the defaults, of which perm picks the parameters' -/
def KB (K : PySem.W.Frag) (fd : FuncData) (ps : List Str) (n : Nat) (ks : List Str) (perm : List Nat) (ds : List Value) : Prop :=
  ∀ (s : Shared) (us ws : List Value), K.In s.heap → us.length = n → ws.length = ks.length → BindsTo s fd ⟨us, ks.zip ws⟩ (ps.zip (pick perm (us ++ ws ++ ds)))
def tCallP (sp : Sp) (n m : Nat) (perm : List Nat) (dvs : List V) (E : XK) (t tk : TA) : TE := fun σ H Q => t σ H fun vs H1 => tk σ H1 fun zs H2 => vs.length = n ∧ zs.length = m ∧ sp (pick perm (vs ++ zs ++ dvs)) H2 Q E
theorem pg_callK {n : Nat} {perm : List Nat} (F : FnG X.prog X.w X.K X.mg X.base CX k f fd ps sp) (hr : Room k X.A) (hg : X.A.guards = some []) (gl : Gl X x) (hm : X.mg x = some (.ref f)) (hk : PySem.W.keepIn X.K (.ref f) = true) (hb : KB X.K fd ps n ks perm ds) (hd : Vals dvs ds) (hx : Passes CX X E)
    (ha : PA X (e :: es) t) (hkw : PK X kws tk) (hall : (backToKw pos (keywordEach kws X.env)).all (·.1.isSome) = true := by rfl) (hks : (backToKw pos (keywordEach kws X.env)).filterMap (·.1) = ks := by rfl)
    (hdb : (x == ("__debug__" : Str)) = false := by decide) (he : starEach (e :: es) X.env = (false, eval e X.env) :: starEach es X.env := by rfl)
    (hpl : ((backTo pos (starEach (e :: es) X.env)).any (·.1) || (backToKw pos (keywordEach kws X.env)).any (·.1.isNone)) = false := by rfl) :
    PE X (.Call (.Name x p) (e :: es) kws pos) (tCallP sp n ks.length perm dvs E t tk) := by
  refine ⟨fun pins s σ H Q I h => wpAny_Call_Name_kw (ld_glob I gl hm ?_ hdb)⟩
  refine PySem.W.callWith_KW (h₀ := X.base) I.ok.mod.kin hk hall (thn (ha.run pos pins s σ H _ I h) fun us s1 ⟨vs, H1, I1, r, q⟩ => thn (hkw.run pos pins s1 σ H1 _ I1 q) fun ws s2 ⟨zs, H2, I2, rz, l1, l2, q2⟩ => ⟨I2.kIn, ?_⟩) hpl he
  rw [hks]
  exact wp_of_code (α := Unit) (F.call hr hg hx I2 (fun _ => hb s2 us ws I2.kIn (by rw [← r.length]; exact l1) (by rw [← rz.length]; exact l2)) (pick_vals ((r.append rz).append hd)) q2)
theorem pg_callK0 {perm : List Nat} (F : FnG X.prog X.w X.K X.mg X.base CX k f fd ps sp) (hr : Room k X.A) (hg : X.A.guards = some []) (gl : Gl X x) (hm : X.mg x = some (.ref f)) (hk : PySem.W.keepIn X.K (.ref f) = true) (hb : KB X.K fd ps 0 ks perm ds) (hd : Vals dvs ds) (hx : Passes CX X E)
    (hkw : PK X kws tk) (hall : (backToKw pos (keywordEach kws X.env)).all (·.1.isSome) = true := by rfl) (hks : (backToKw pos (keywordEach kws X.env)).filterMap (·.1) = ks := by rfl) (hdb : (x == ("__debug__" : Str)) = false := by decide)
    (hpl : ((backTo pos (starEach [] X.env)).any (·.1) || (backToKw pos (keywordEach kws X.env)).any (·.1.isNone)) = false := by rfl) :
    PE X (.Call (.Name x p) [] kws pos) (tCallP sp 0 ks.length perm dvs E tNil tk) := by
  refine ⟨fun pins s σ H Q I h => wpAny_Call_Name_kw (ld_glob I gl hm ?_ hdb)⟩
  refine PySem.W.callWith_KW0 (h₀ := X.base) I.ok.mod.kin hk hall (thn (hkw.run pos pins s σ H _ I h) fun ws s2 ⟨zs, H2, I2, rz, _, l2, q2⟩ => ⟨I2.kIn, ?_⟩) hpl
  rw [hks]
  exact wp_of_code (α := Unit) (F.call hr hg hx I2 (fun _ => hb s2 [] ws I2.kIn rfl (by rw [← rz.length]; exact l2)) (pick_vals (vs := [] ++ zs ++ dvs) (us := [] ++ ws ++ ds) (rz.append hd)) q2)
end

abbrev Con := List D → Nat → (D → Nat → Prop) → Prop
def lift (K : PySem.W.Frag) (Gf : Addr → Addr → Gx) (C : Con) : Sp := fun vs H Q _ => ∃ (a c : Addr) (ads : List Addr) (ds : List D) (n : Nat) (Qd : D → Nat → Prop),
  (∀ x ∈ (Gf a c).dk, x ∈ ads) ∧ (∀ x ∈ ads, H x ≠ none) ∧ (Gf a c).DI n H ∧ RepAll K (Gf a c) (mask ads H) vs ds ∧ C ds n Qd ∧
  ∀ (v : V) (d : D) (n' : Nat) (H' : Hp), (∀ b o, H b = some o → b ∉ (Gf a c).dk → H' b = some o) → (Gf a c).DI n' H' → Rep K (Gf a c) (mask ads H') v d → Qd d n' → Q v H'
@[simp] def start3 (N : List Str) (ds : List D) : List (Option SV) := ds.map (fun d => some (.sh d)) ++ List.replicate (N.length - ds.length) none
section
variable {P : Program} {w : World} {K : PySem.W.Frag} {mg : Str → Option Value} {base : Heap} {k : Nat} {f : Addr} {fd : FuncData} {ps N : List Str} {x qual : Str} {params : Arguments} {body : List Stmt} {scope : Scope} {Gf : Addr → Addr → Gx} {C : Con} {ws : WS}
theorem start_sr {G : Gx} {H : Hp} {ads : List Addr} {n : Nat} {am : Nat → Addr} {vs : List V} {ds : List D} (hk : ∀ x ∈ G.dk, x ∈ ads) (ha : ∀ x ∈ ads, H x ≠ none) (di : G.DI n H) (r : RepAll K G (mask ads H) vs ds) :
    SR K G ⟨H, ads, [], none⟩ am ads (L2.start N vs) ⟨start3 N ds, n⟩ H where
  len := by unfold L2.start start3; simp [r.length]
  sh := fun i d h => by
    unfold start3 at h
    by_cases q : i < ds.length
    · rw [List.getElem?_append_left (by simpa using q), List.getElem?_map] at h
      cases e : ds[i]? with
      | none => rw [e] at h; cases h
      | some d' =>
        rw [e] at h
        have : d' = d := by simpa using h
        subst this
        obtain ⟨v, h1, h2⟩ := r.get e
        refine ⟨v, ?_, h2⟩
        unfold L2.start
        rw [List.getElem?_append_left (by simpa [r.length] using q), List.getElem?_map, h1]
        rfl
    · rw [List.getElem?_append_right (by simpa using q), List.getElem?_replicate] at h
      split at h <;> cases h
  ow := fun i d h => by
    unfold start3 at h
    by_cases q : i < ds.length
    · rw [List.getElem?_append_left (by simpa using q), List.getElem?_map] at h
      cases e : ds[i]? with
      | none => rw [e] at h; cases h
      | some d' => rw [e] at h; cases h
    · rw [List.getElem?_append_right (by simpa using q), List.getElem?_replicate] at h
      split at h <;> cases h
  inj := fun a b ⟨d, h⟩ _ _ => by
    exfalso
    unfold start3 at h
    by_cases q : a < ds.length
    · rw [List.getElem?_append_left (by simpa using q), List.getElem?_map] at h
      cases e : ds[a]? with
      | none => rw [e] at h; cases h
      | some d' => rw [e] at h; cases h
    · rw [List.getElem?_append_right (by simpa using q), List.getElem?_replicate] at h
      split at h <;> cases h
  ads := fun a z => z
  dks := hk
  al := ha
  base := fun b o h _ => h
  di := di
  gh := fun p hp => by cases hp
  slf := fun x hx => by cases hx
/-- THE RULE: a def by its body's reading over data -/
theorem FnG.data (F : FunB K x qual params body scope f fd) (S : FnScope N ps scope) (len : ∀ ds n Q, C ds n Q → ds.length = ps.length)
    (hb : ∀ (cdv : Value) (A : Around) (outer : List Env) (s : Shared) (H : Hp) (E : XK) (a c : Addr), Room k (A.deeper (envOfC qual scope s.heap.objs.size f cdv)) → A.guards = some [] →
      ∃ t, DSs (cxOf CX0 P w K mg base N qual scope f cdv A outer s H E).nox (Gf a c) body t ws)
    (hw : ∀ ds n Q, C ds n Q → ws ⟨fun δ => Q .non δ.n, Q, fun _ => False, fun _ => False⟩ ⟨start3 N ds, n⟩) : FnG P w K mg base CX0 (k + 1) f fd ps (lift K Gf C) := by
  refine FnG.of F S (fun vs H Q E ⟨a, c, ads, ds, n, Qd, _, _, _, r, hc, _⟩ => by rw [r.length]; exact len ds n Qd hc) fun cdv A outer s H vs Q E hr hg ⟨a, c, ads, ds, n, Qd, hk, ha, di, r, hc, q⟩ => ?_
  obtain ⟨t, ht⟩ := hb cdv A outer s H E a c hr hg
  refine ⟨t, ht.ps.nox, ht.sim ⟨H, ads, [], none⟩ (fun _ => 0) ads _ _ H (start_sr hk ha di r) _ (hw ds n Qd hc) _ ⟨fun am M σ δ H' S' z => ?_, fun _ _ _ _ _ _ z => z, fun _ _ _ _ _ _ z => z, fun v d n' H' rv hbase di' z => q v d n' H' hbase di' rv z⟩⟩
  exact q .non .non _ H' S'.base S'.di rfl z
end
@[simp] def wCall (C : Con) (dd : List D) (w : WA) : WE := fun δ Q => w δ fun rs δ1 => keeps rs ∧ C (rs.map RD.d ++ dd) δ1.n fun d n' => Q (.sh d) ⟨δ1.sl, n'⟩
@[simp] def wCallP (C : Con) (n m : Nat) (perm : List Nat) (dd : List D) (w wk : WA) : WE := fun δ Q => w δ fun rs δ1 => wk δ1 fun qs δ2 => keeps rs ∧ keeps qs ∧ rs.length = n ∧ qs.length = m ∧
  C (pick perm (rs.map RD.d ++ qs.map RD.d ++ dd)) δ2.n fun d n' => Q (.sh d) ⟨δ2.sl, n'⟩
section
variable {X : Cx} {G : Gx} {K : PySem.W.Frag} {E : Ent} {Gf : Addr → Addr → Gx} {a c : Addr} {C : Con} {dd : List D} {dvs : List V} {ta tk : TA} {wa wk : WA}
/-- the default values, that stand whatever the heap -/
def Dfl (K : PySem.W.Frag) (G : Gx) (dvs : List V) (dd : List D) : Prop := ∀ H, RepAll K G H dvs dd
theorem dfl_nil {G : Gx} : Dfl K G [] [] := fun _ => rfl
theorem lift_use {Ex : XK} {am : Nat → Addr} {M : List Addr} {σ : L2.St} {δ : St3} {H : Hp} {vs : List V} {ds : List D} {Qd : RD → St3 → Prop} {Q : VK} (S : SR K (Gf a c) E am M σ δ H) (r : RepAll K (Gf a c) (mask M H) vs ds) (hc : C ds δ.n fun d n' => Qd (.sh d) ⟨δ.sl, n'⟩)
    (k : ∀ (v : V) (r : RD) (δ' : St3) (H' : Hp), SR K (Gf a c) E am M σ δ' H' → Ext (Gf a c) am δ H H' → (∀ i, isOwn δ' i → isOwn δ i) → RV K (Gf a c) E am M σ δ' H' v r → Qd r δ' → Q v H') : lift K Gf C vs H Q Ex := by
  refine ⟨a, c, M, ds, δ.n, _, fun x hx => S.ads x (S.dks x hx), S.al, S.di, r, hc, fun v d n' H' hb di rv q => ?_⟩
  exact k v (.sh d) ⟨δ.sl, n'⟩ H' (S.after hb di) (fun b o h hk _ => hb b o h hk) (fun i z => z) rv q
theorem sim_call {Ex : XK} (h : SimA K (Gf a c) E ta wa) (hd : Dfl K (Gf a c) dvs dd) : SimE K (Gf a c) E (tCall (lift K Gf C) dvs Ex ta) (wCall C dd wa) := fun am M σ δ H S Qd q Q k =>
  h am M σ δ H S _ q _ fun vs rs δ1 H1 S1 e1 o1 r1 ⟨hk, hc⟩ => lift_use S1 ((r1.rep hk).append (hd _)) hc fun v r δ' H' S' e' o' rv hq => k v r δ' H' S' (e1.trans o1 e') (fun i z => o1 i (o' i z)) rv hq
theorem pick_rep {perm : List Nat} {H : Hp} {G : Gx} {vs : List V} {ds : List D} (r : RepAll K G H vs ds) : RepAll K G H (pick perm vs) (pick perm ds) := by
  induction perm with
  | nil => exact rfl
  | cons i perm ih =>
    unfold pick at ih ⊢
    cases q : ds[i]? with
    | none =>
      have q' : vs[i]? = none := by
        rw [List.getElem?_eq_none_iff] at q ⊢
        rw [r.length]; exact q
      rw [List.filterMap_cons_none q, List.filterMap_cons_none q']
      exact ih
    | some d =>
      obtain ⟨v, hv, rv⟩ := r.get q
      rw [List.filterMap_cons_some q, List.filterMap_cons_some hv]
      exact ⟨v, _, rfl, rv, ih⟩
theorem RKs.later {G : Gx} {am : Nat → Addr} {M : List Addr} {σ : L2.St} {δ1 δ2 : St3} {H1 H2 : Hp} (S : SR K G E am M σ δ1 H1) (e : Ext G am δ1 H1 H2) : ∀ {vs : List V} {rs : List RD}, RKs K G am M δ1 H1 vs rs → keeps rs → RKs K G am M δ2 H2 vs rs
  | _, _, .nil, _ => .nil
  | _, _, .cons h t, ⟨k, ks⟩ => .cons (h.later S e fun z => (k z).elim) (t.later S e ks)
theorem sim_callP {Ex : XK} {n m : Nat} {perm : List Nat} (h : SimA K (Gf a c) E ta wa) (h' : SimA K (Gf a c) E tk wk) (hd : Dfl K (Gf a c) dvs dd) : SimE K (Gf a c) E (tCallP (lift K Gf C) n m perm dvs Ex ta tk) (wCallP C n m perm dd wa wk) := fun am M σ δ H S Qd q Q k =>
  h am M σ δ H S _ q _ fun vs rs δ1 H1 S1 e1 o1 r1 q => h' am M σ δ1 H1 S1 _ q _ fun zs qs δ2 H2 S2 e2 o2 r2 ⟨k1, k2, l1, l2, hc⟩ =>
    ⟨by rw [r1.length]; exact l1, by rw [r2.length]; exact l2, lift_use S2 (pick_rep ((((r1.later (δ2 := δ2) S1 e2 k1).rep k1).append (r2.rep k2)).append (hd _))) hc fun v r δ' H' S' e' o' rv hq =>
      k v r δ' H' S' ((e1.trans o1 e2).trans (fun i z => o1 i (o2 i z)) e') (fun i z => o1 i (o2 i (o' i z))) rv hq⟩
variable {k : Nat} {f : Addr} {fd : FuncData} {ps ks : List Str} {ds : List Value} {x : Str} {p pos : Pos} {e : Expr} {es : List Expr} {kws : List Keyword}
theorem de_call (F : FnG X.prog X.w X.K X.mg X.base CX0 k f fd ps (lift X.K Gf C)) (hr : Room k X.A) (hg : X.A.guards = some []) (hm : X.mg x = some (.ref f)) (hk : PySem.W.keepIn X.K (.ref f) = true) (hb : Binds X.K fd ps ds) (hv : Vals dvs ds) (hd : Dfl X.K (Gf a c) dvs dd)
    (ha : DA X (Gf a c) (e :: es) ta wa) (gl : Gl X x := by rfl) (hdb : (x == ("__debug__" : Str)) = false := by decide) (he : starEach (e :: es) X.env = (false, eval e X.env) :: starEach es X.env := by rfl) (hpl : (backTo pos (starEach es X.env)).any (·.1) = false := by rfl) :
    DE X (Gf a c) (.Call (.Name x p) (e :: es) [] pos) (tCall (lift X.K Gf C) dvs E0 ta) (wCall C dd wa) := ⟨pg_call F hr hg gl hm hk hb hv pass0 ha.pa hdb he hpl, fun E => sim_call (ha.sim E) hd⟩
theorem de_call0 (F : FnG X.prog X.w X.K X.mg X.base CX0 k f fd ps (lift X.K Gf C)) (hr : Room k X.A) (hg : X.A.guards = some []) (hm : X.mg x = some (.ref f)) (hk : PySem.W.keepIn X.K (.ref f) = true) (hb : Binds X.K fd ps ds) (hv : Vals dvs ds) (hd : Dfl X.K (Gf a c) dvs dd)
    (gl : Gl X x := by rfl) (hdb : (x == ("__debug__" : Str)) = false := by decide) : DE X (Gf a c) (.Call (.Name x p) [] [] pos) (tCall (lift X.K Gf C) dvs E0 tNil) (wCall C dd wNil) := ⟨pg_call0 F hr hg gl hm hk hb hv pass0 hdb, fun E => sim_call sim_nil hd⟩
structure DK (X : Cx) (G : Gx) (kws : List Keyword) (tk : TA) (w : WA) : Prop where
  pk : PK X kws tk
  sim : ∀ E, SimA X.K G E tk w
theorem dk_nil {G : Gx} : DK X G [] tNil wNil := ⟨pk_nil, fun _ => sim_nil⟩
theorem dk_cons {G : Gx} {nm : Option Str} {kpos : Pos} {te : TE} {we : WE} (h : DE X G e te we) (hr : DK X G kws tk wk) : DK X G (⟨nm, e, kpos⟩ :: kws) (tCons te tk) (wCons we wk) := ⟨pk_cons h.pe hr.pk, fun E => sim_cons (h.sim E) (hr.sim E)⟩
theorem de_callK {n m : Nat} {perm : List Nat} (F : FnG X.prog X.w X.K X.mg X.base CX0 k f fd ps (lift X.K Gf C)) (hr : Room k X.A) (hg : X.A.guards = some []) (hm : X.mg x = some (.ref f)) (hk : PySem.W.keepIn X.K (.ref f) = true) (hb : KB X.K fd ps n ks perm ds) (hv : Vals dvs ds) (hd : Dfl X.K (Gf a c) dvs dd)
    (ha : DA X (Gf a c) (e :: es) ta wa) (hkw : DK X (Gf a c) kws tk wk) (gl : Gl X x := by rfl) (hall : (backToKw pos (keywordEach kws X.env)).all (·.1.isSome) = true := by rfl) (hks : (backToKw pos (keywordEach kws X.env)).filterMap (·.1) = ks := by rfl)
    (hdb : (x == ("__debug__" : Str)) = false := by decide) (he : starEach (e :: es) X.env = (false, eval e X.env) :: starEach es X.env := by rfl)
    (hpl : ((backTo pos (starEach (e :: es) X.env)).any (·.1) || (backToKw pos (keywordEach kws X.env)).any (·.1.isNone)) = false := by rfl) (hlen : ks.length = m := by rfl) :
    DE X (Gf a c) (.Call (.Name x p) (e :: es) kws pos) (tCallP (lift X.K Gf C) n m perm dvs E0 ta tk) (wCallP C n m perm dd wa wk) := by subst hlen; exact ⟨pg_callK F hr hg gl hm hk hb hv pass0 ha.pa hkw.pk hall hks hdb he hpl, fun E => sim_callP (ha.sim E) (hkw.sim E) hd⟩
theorem de_callK0 {m : Nat} {perm : List Nat} (F : FnG X.prog X.w X.K X.mg X.base CX0 k f fd ps (lift X.K Gf C)) (hr : Room k X.A) (hg : X.A.guards = some []) (hm : X.mg x = some (.ref f)) (hk : PySem.W.keepIn X.K (.ref f) = true) (hb : KB X.K fd ps 0 ks perm ds) (hv : Vals dvs ds) (hd : Dfl X.K (Gf a c) dvs dd)
    (hkw : DK X (Gf a c) kws tk wk) (gl : Gl X x := by rfl) (hall : (backToKw pos (keywordEach kws X.env)).all (·.1.isSome) = true := by rfl) (hks : (backToKw pos (keywordEach kws X.env)).filterMap (·.1) = ks := by rfl)
    (hdb : (x == ("__debug__" : Str)) = false := by decide) (hpl : ((backTo pos (starEach [] X.env)).any (·.1) || (backToKw pos (keywordEach kws X.env)).any (·.1.isNone)) = false := by rfl) (hlen : ks.length = m := by rfl) :
    DE X (Gf a c) (.Call (.Name x p) [] kws pos) (tCallP (lift X.K Gf C) 0 m perm dvs E0 tNil tk) (wCallP C 0 m perm dd wNil wk) := by subst hlen; exact ⟨pg_callK0 F hr hg gl hm hk hb hv pass0 hkw.pk hall hks hdb hpl, fun E => sim_callP sim_nil (hkw.sim E) hd⟩
end

def fLen : FC
  | [.lst xs], Q => Q (.sh (.int xs.length))
  | [.tup xs], Q => Q (.sh (.int xs.length))
  | [.str z], Q => z.length ≤ 16777216 ∧ Q (.sh (.int z.length))
  | _, _ => False
@[simp] theorem fLen_0  (xs : List D) (Q : RD → Prop) : fLen [.lst xs] Q = (Q (.sh (.int xs.length))) := rfl
@[simp] theorem fLen_1  (xs : List D) (Q : RD → Prop) : fLen [.tup xs] Q = (Q (.sh (.int xs.length))) := rfl
@[simp] theorem fLen_2  (z : Str) (Q : RD → Prop) : fLen [.str z] Q = (z.length ≤ 16777216 ∧ Q (.sh (.int z.length))) := rfl
def fInt : FC
  | [.int i], Q => Q (.sh (.int i))
  | [.bl b], Q => Q (.sh (.int (if b then 1 else 0)))
  | _, _ => False
@[simp] theorem fInt_0  (i : Int) (Q : RD → Prop) : fInt [.int i] Q = (Q (.sh (.int i))) := rfl
@[simp] theorem fInt_1  (b : Bool) (Q : RD → Prop) : fInt [.bl b] Q = (Q (.sh (.int (if b then 1 else 0)))) := rfl
def fAbs : FC
  | [.int i], Q => Q (.sh (.int (if i < 0 then -i else i)))
  | _, _ => False
@[simp] theorem fAbs_0  (i : Int) (Q : RD → Prop) : fAbs [.int i] Q = (Q (.sh (.int (if i < 0 then -i else i)))) := rfl
def fMax2 : FC
  | [.int i, .int j], Q => Q (.sh (.int (if j > i then j else i)))
  | _, _ => False
@[simp] theorem fMax2_0  (i : Int) (j : Int) (Q : RD → Prop) : fMax2 [.int i, .int j] Q = (Q (.sh (.int (if j > i then j else i)))) := rfl
def fMin2 : FC
  | [.int i, .int j], Q => Q (.sh (.int (if j < i then j else i)))
  | _, _ => False
@[simp] theorem fMin2_0  (i : Int) (j : Int) (Q : RD → Prop) : fMin2 [.int i, .int j] Q = (Q (.sh (.int (if j < i then j else i)))) := rfl
def fList : FC
  | [.lst xs], Q => Q (.fr (.lst xs))
  | [.tup xs], Q => Q (.fr (.lst xs))
  | _, _ => False
@[simp] theorem fList_0  (xs : List D) (Q : RD → Prop) : fList [.lst xs] Q = (Q (.fr (.lst xs))) := rfl
@[simp] theorem fList_1  (xs : List D) (Q : RD → Prop) : fList [.tup xs] Q = (Q (.fr (.lst xs))) := rfl
def fTuple : FC
  | [.lst xs], Q => Q (.sh (.tup xs))
  | [.tup xs], Q => Q (.sh (.tup xs))
  | _, _ => False
@[simp] theorem fTuple_0  (xs : List D) (Q : RD → Prop) : fTuple [.lst xs] Q = (Q (.sh (.tup xs))) := rfl
@[simp] theorem fTuple_1  (xs : List D) (Q : RD → Prop) : fTuple [.tup xs] Q = (Q (.sh (.tup xs))) := rfl
def fRepr : FC
  | [d], Q => ∃ p, d.py = some p ∧ p.showable = true ∧ p.hasDict = false ∧ p.depth ≤ 30 ∧ p.shown.length ≤ 16777216 ∧ Q (.sh (.str p.shown))
  | _, _ => False
section
variable {X : Cx} {G : Gx} {K : PySem.W.Frag}
def rLenA (K : PySem.W.Frag) : List V → Hp → VK → Prop := fun xs H Q => (∃ p ys, xs = [.ref p] ∧ (SqL K H p ys ∨ SqT K H p ys) ∧ Q (.int ys.length) H) ∨ ∃ z, xs = [.str z] ∧ z.length ≤ sizeLine ∧ Q (.int z.length) H
theorem call_lenA : CallR X (.builtin "len") (rLenA X.K) := call_len_seq.or call_len_str
theorem calls_len : CallS K G (rLenA K) fLen := fun M H vs ds al b Qd h Q k => by
  match ds, h with
  | [.lst xs], h =>
    obtain ⟨v, rfl, b1⟩ := b.one
    obtain ⟨p, ys, rfl, hy, r⟩ := b1.lst
    exact .inl ⟨p, ys, rfl, .inl (SqL.of hy), by rw [r.length]; exact k _ _ H (Same.refl _) rn_int h⟩
  | [.tup xs], h =>
    obtain ⟨v, rfl, b1⟩ := b.one
    obtain ⟨p, ys, rfl, hy, r⟩ := b1.tup
    exact .inl ⟨p, ys, rfl, .inr hy, by rw [r.length]; exact k _ _ H (Same.refl _) rn_int h⟩
  | [.str z], ⟨h1, h⟩ =>
    obtain ⟨v, rfl, b1⟩ := b.one
    exact .inr ⟨z, by rw [b1.str], by rw [line16]; exact h1, k _ _ H (Same.refl _) rn_int h⟩
theorem calls_int : CallS K G (fun xs H Q => (∃ i, xs = [.int i] ∧ Q (.int i) H) ∨ ∃ k, xs = [.bl k] ∧ Q (.int (if k then 1 else 0)) H) fInt := fun M H vs ds al b Qd h Q k => by
  match ds, h with
  | [.int i], h =>
    obtain ⟨v, rfl, b1⟩ := b.one
    exact .inl ⟨i, by rw [b1.int], k _ _ H (Same.refl _) rn_int h⟩
  | [.bl i], h =>
    obtain ⟨v, rfl, b1⟩ := b.one
    exact .inr ⟨i, by rw [b1.bl], k _ _ H (Same.refl _) rn_int h⟩
theorem calls_abs : CallS K G (fun xs H Q => ∃ i, xs = [.int i] ∧ Q (.int (if i < 0 then -i else i)) H) fAbs := fun M H vs ds al b Qd h Q k => by
  match ds, h with
  | [.int i], h =>
    obtain ⟨v, rfl, b1⟩ := b.one
    exact ⟨i, by rw [b1.int], k _ _ H (Same.refl _) rn_int h⟩
theorem calls_max2 : CallS K G (fun xs H Q => ∃ i j, xs = [.int i, .int j] ∧ Q (.int (if j > i then j else i)) H) fMax2 := fun M H vs ds al b Qd h Q k => by
  match ds, h with
  | [.int i, .int j], h =>
    obtain ⟨v, u, rfl, b1, b2⟩ := b.two
    exact ⟨i, j, by rw [b1.int, b2.int], k _ _ H (Same.refl _) rn_int h⟩
theorem calls_min2 : CallS K G (fun xs H Q => ∃ i j, xs = [.int i, .int j] ∧ Q (.int (if j < i then j else i)) H) fMin2 := fun M H vs ds al b Qd h Q k => by
  match ds, h with
  | [.int i, .int j], h =>
    obtain ⟨v, u, rfl, b1, b2⟩ := b.two
    exact ⟨i, j, by rw [b1.int, b2.int], k _ _ H (Same.refl _) rn_int h⟩
theorem calls_list : CallS K G (fun xs H Q => ∃ p ys, xs = [.ref p] ∧ (SqL K H p ys ∨ SqT K H p ys) ∧ ∀ l, H l = none → Q (.ref l) (upd H l (.lst ys))) fList := fun M H vs ds al b Qd h Q k => by
  match ds, h with
  | [.lst xs], h =>
    obtain ⟨v, rfl, b1⟩ := b.one
    obtain ⟨p, ys, rfl, hy, r⟩ := b1.lst
    exact ⟨p, ys, rfl, .inl (SqL.of hy), fun l hl => k _ _ _ (same_new hl) (rn_lst hl r) h⟩
  | [.tup xs], h =>
    obtain ⟨v, rfl, b1⟩ := b.one
    obtain ⟨p, ys, rfl, hy, r⟩ := b1.tup
    exact ⟨p, ys, rfl, .inr hy, fun l hl => k _ _ _ (same_new hl) (rn_lst hl r) h⟩
theorem calls_tuple : CallS K G (fun xs H Q => ∃ p ys, xs = [.ref p] ∧ ((SqL K H p ys ∧ ∀ l, H l = none → Q (.ref l) (upd H l (.tup ys))) ∨ (SqT K H p ys ∧ Q (.ref p) H))) fTuple := fun M H vs ds al b Qd h Q k => by
  match ds, h with
  | [.lst xs], h =>
    obtain ⟨v, rfl, b1⟩ := b.one
    obtain ⟨p, ys, rfl, hy, r⟩ := b1.lst
    exact ⟨p, ys, rfl, .inl ⟨SqL.of hy, fun l hl => k _ _ _ (same_new hl) (rn_tup al hl r) h⟩⟩
  | [.tup xs], h =>
    obtain ⟨v, rfl, b1⟩ := b.one
    have bb := b1
    obtain ⟨p, ys, rfl, hy, r⟩ := b1.tup
    exact ⟨p, ys, rfl, .inr ⟨hy, k _ _ _ (Same.refl _) (rn_sh bb.shT) h⟩⟩
/-- repr of data -/
def rRepr (K : PySem.W.Frag) : List V → Hp → VK → Prop := fun xs H Q => ∃ v p, xs = [v] ∧ Dp K H v p ∧ p.showable = true ∧ p.hasDict = false ∧ p.depth ≤ 30 ∧ p.shown.length ≤ sizeLine ∧ Q (.str p.shown) H
theorem call_reprA (hg : X.A.guards = some []) (hu : X.A.units + 64 < cLine) : CallR X (.builtin "repr") (rRepr X.K) := by
  intro pins s σ H xs us Q I r h
  obtain ⟨v, p, rfl, hd, h1, h2, h3, h4, q⟩ := h
  obtain ⟨u, rfl, ru⟩ := vals1 r
  obtain ⟨as, rd⟩ := Dp.reads I p v u hd ru
  cases p with
  | none => cases rd; exact PySem.P.repr_of_none ⟨.str _, H, I.tok _, ⟨_, rfl⟩, q⟩
  | bool b =>
    cases rd
    refine PySem.P.repr_of_bool ⟨.str _, H, I.tok _, ⟨_, rfl⟩, ?_⟩
    cases b <;> exact q
  | int i => cases rd; exact PySem.P.repr_of_int (of_decide_eq_true h1) ⟨.str _, H, I.tok _, ⟨_, rfl⟩, q⟩
  | str x => cases rd; exact PySem.P.repr_of_str ⟨.str _, H, I.tok _, ⟨_, rfl⟩, q⟩ h4
  | dict _ => cases h2
  | list ps =>
    cases rd with
    | list e1 e2 e3 e4 => exact repr_of_reads' (.list e1 e2 e3 e4) h1 (PyData.noDict_hsm h2) hg (by omega) (fun _ _ e => e) (fun h' u tk hk => ⟨.str _, H, I.kept hk, ⟨_, rfl⟩, q⟩) h4
  | tuple ps =>
    cases rd with
    | tuple e1 e2 e3 e4 => exact repr_of_reads' (.tuple e1 e2 e3 e4) h1 (PyData.noDict_hsm h2) hg (by omega) (fun _ _ e => e) (fun h' u tk hk => ⟨.str _, H, I.kept hk, ⟨_, rfl⟩, q⟩) h4
theorem calls_repr : CallS K G (rRepr K) fRepr := fun M H vs ds al b Qd h Q k => by
  match ds, h with
  | [d], ⟨p, e, h1, h2, h3, h4, h⟩ =>
    obtain ⟨v, rfl, b1⟩ := b.one
    exact ⟨v, p, rfl, b1.dp e, h1, h2, h3, by rw [line16]; exact h4, k _ _ H (Same.refl _) rn_str h⟩
end
end L3
namespace L3
open PySem PySem.Spec PyProof.Rows L2
/-- the heap in which at most the script is tracked -/
def Scr (a : Addr) (o : Obj) (xs : List V) (H : Hp) : Prop := ∀ b u, H b = some u → b = a ∧ u = .frz o (.lst xs)
theorem law_callG {P : Program} {w : World} {K : PySem.W.Frag} {mg mb : Str → Option Value} {k : Nat} {fa a : Addr} {fd : FuncData} {x : Str} {sp : Sp} {s₁ : Shared} {vs : List Value} {ns : List Int}
    (kx : K.In s₁.heap) (g1 : s₁.heap.Ns mainGlobals mg) (g2 : s₁.heap.Ns builtinsNs mb) (g3 : ∀ x : Str, x ≠ "__name__" → mb x = bootBuiltins x) (nl : s₁.heap.NoLimit) (ng : s₁.gens = #[])
    (ha : s₁.heap.get? a = some { cls := .type "list", data := .seq vs.toArray }) (hi : IntsAre vs ns) (hl : ns.length ≤ sizeLine) (hr : Room k callerA)
    (F : ∀ base : Heap, K.In base → base.Ns mainGlobals mg → FnG P w K mg base CX0 k fa fd [x] sp) (bt : ∀ (s : Shared) (u : Value), BindsTo s fd ⟨[u], []⟩ [(x, u)])
    (hsp : ∀ H : Hp, SqL K H a (ns.map V.int) → sp [.ref a] H (fun v _ => v = .bl true) fun _ _ _ => False) :
    codeAny (model P w) callerA (.call (.ref fa) ⟨[.ref a], []⟩) (fun r s' => r = .ok (.ret (.bool true)) ∧ OldK s₁.heap s'.heap ∧ s'.os = s₁.os ∧ AllBare s'.gens) s₁ := by
  have rv := vals_ints hi
  obtain ⟨H, hS, sc, hK⟩ : ∃ H : Hp, SqL K H a (ns.map V.int) ∧ Scr a { cls := .type "list", data := .seq vs.toArray } (ns.map V.int) H ∧ (H a ≠ none → K.lookup a = none) := by
    cases q : K.lookup a with
    | none =>
      refine ⟨fun b => if b = a then some (.frz { cls := .type "list", data := .seq vs.toArray } (.lst (ns.map V.int))) else none, .inl (.inr ⟨_, if_pos rfl⟩), fun b u e => ?_, fun _ => rfl⟩
      by_cases z : b = a
      · exact ⟨z, (Option.some.inj ((if_pos z).symm.trans e)).symm⟩
      · cases (if_neg z).symm.trans e
    | some o =>
      have e := kx a o q
      rw [ha] at e
      cases e
      refine ⟨fun _ => none, .inr ⟨_, vs.toArray, _, q, rfl, rfl, rfl, by rw [List.size_toArray, hi.length]; exact hl, rv⟩, ?_, fun z => absurd rfl z⟩
      intro b u e
      cases e
  have hok : HOk P w H s₁.heap := fun b u e => by
    obtain ⟨rfl, rfl⟩ := sc b u e
    exact ⟨ha, by rw [List.length_map]; exact hl, vs, _, rv, ha⟩
  -- what is written at the top is not the script
  have dictNo : ∀ {b : Addr} {o : Obj} {es : Array DictEntry} {ep : Nat}, s₁.heap.get? b = some o → o.data = .dict es ep → H b = none := fun {b o es ep} e d => by
    cases q : H b with
    | none => rfl
    | some u =>
      obtain ⟨rfl, _⟩ := sc b u q
      rw [ha] at e
      cases e
      exact nomatch d
  have toNs : ∀ {b : Addr} {m : Str → Option Value}, s₁.heap.Ns b m → (hidT s₁.heap H).Ns b m := by
    rintro b m ⟨o, es, ep, e, d, r⟩
    exact ⟨o, es, ep, hidT_get e (dictNo e d), d, r⟩
  have kb : K.In (hidT s₁.heap H) := fun b o e => hidT_get (kx b o e) (by
    cases q : H b with
    | none => rfl
    | some u =>
      obtain ⟨rfl, _⟩ := sc b u q
      rw [hK (by rw [q]; simp)] at e
      cases e)
  obtain ⟨mc, n1, n2⟩ := nl
  have e0 : Env0 P w K mg (hidT s₁.heap H) callerA [] s₁ H :=
    { frames := rfl, mod := ⟨kb, toNs g1, ⟨mb, toNs g2, g3⟩, ⟨mc, toNs n1, n2⟩⟩, bs := fun b o e => of_hidT e, bsz := Nat.le_of_eq (hidT_size _ _), funs := trivial, frf := fun b hb => (by cases hb), hok := hok, bare := .of_eq ng }
  have run := (F _ kb (toNs g1)).go callerA [] s₁ H ⟨[.ref a], []⟩ [.ref a] [.ref a] _ _ ⟨hr, rfl⟩ e0 (bt s₁ (.ref a)) (.cons rfl .nil) (hsp H hS)
  refine codeAny_mono run fun r s' h => ?_
  match r, h with
  | .error _, h => exact False.elim h
  | .ok .next, h => exact False.elim h
  | .ok .brk, h => exact False.elim h
  | .ok .cont, h => exact False.elim h
  | .ok (.ret u), ⟨v, H', os, bare, un, hok', r', q⟩ =>
    have q : v = .bl true := q
    subst q
    have r' : u = Value.bool true := r'
    subst r'
    refine ⟨rfl, OldK.of_keep fun b o e => ?_, os, bare⟩
    cases z : H b with
    | none => exact un.keep b o e z (fun m => nomatch m) (fun m => nomatch m)
    | some y =>
      obtain ⟨rfl, rfl⟩ := sc b y z
      rw [ha] at e
      cases e
      exact (hok' _ _ (un.frzs _ _ _ z)).1
/-- the goal that k_head leaves -/
theorem walk_ofG {l : PySem.W.OpenLaw} {n k : Nat} {q : Program} {loose : List Str} {XP : (Str → Option Value) → Heap → Prop} {YP : World → Heap → Prop} {d : DefRec} {K : Params → PySem.W.Frag} {sp : PySem.W.Frag → Sp} {x : Str}
    (hn : l.most = some n) (hn2 : n ≤ sizeLine) (hdf : d.params.defaults = []) (hr : Room k callerA) (hY : ∀ (w : World) (h : Heap), YP w h → (K w.params).In h)
    (F : ∀ (w : World) (mg : Str → Option Value) (fa : Addr) (h : Heap), (K w.params).In h → h.Ns mainGlobals mg → mg d.name = some (.ref fa) →
      ∃ fd : FuncData, (∀ (s : Shared) (u : Value), BindsTo s fd ⟨[u], []⟩ [(x, u)]) ∧ ∀ base : Heap, (K w.params).In base → base.Ns mainGlobals mg → FnG l.prog w (K w.params) mg base CX0 k fa fd [x] (sp (K w.params)))
    (hsp : ∀ (K : PySem.W.Frag) (H : Hp) (a : Addr) (ns : List Int), ns.length ≤ n → SqL K H a (ns.map V.int) → sp K [.ref a] H (fun v _ => v = .bl true) fun _ _ _ => False) :
    PySem.W.WalkO q loose XP YP l.row.toRowW d [] (fun f vs => PySem.call f vs) :=
  Att.attach_call hn hdf fun w s₀ s₁ mg mb fa o pm cd doc a vs ns G Y ho hd hcd hmg hobj hints hlen hg => by
    obtain ⟨fd, b1, b2⟩ := F w mg fa _ (hY w _ Y) G.T.g hmg
    exact law_callG (hY w _ Y) G.T.g G.T.b G.T.builtins G.T.nolimit hg hobj hints (Nat.le_trans hlen hn2) hr b2 b1 fun H hS => hsp _ H a ns hlen hS
end L3
namespace L3
open PySem PySem.Spec PyProof.Rows L2
/-- the own list of a slot -/
@[simp] def ownL (δ : St3) (i : Nat) (ds : List D) : Prop := δ.sl[i]? = some (some (SV.ow (.lst ds)))
@[simp] def wAppend (i : Nat) (w : WE) : WS := fun De δ => (∃ ds0, ownL δ i ds0) ∧ w δ fun r δ1 => ¬ r.bor ∧ ∃ ds, ownL δ1 i ds ∧ ds.length < 16777216 ∧ De.nx ⟨δ1.sl.set i (some (.ow (.lst (ds ++ [r.d])))), δ1.n⟩
@[simp] def wExtend (i : Nat) (w : WE) : WS := fun De δ => (∃ ds0, ownL δ i ds0) ∧ w δ fun r δ1 => ∃ ds es, ownL δ1 i ds ∧ r.d = .lst es ∧ ds.length + es.length ≤ 16777216 ∧ De.nx ⟨δ1.sl.set i (some (.ow (.lst (ds ++ es)))), δ1.n⟩
@[simp] def wPop (i : Nat) : WE := fun δ Q => ∃ ds d, ownL δ i (ds ++ [d]) ∧ Q (.sh d) ⟨δ.sl.set i (some (.ow (.lst ds))), δ.n⟩
@[simp] def wPopAt (i : Nat) (w : WE) : WE := fun δ Q => (∃ ds0, ownL δ i ds0) ∧ w δ fun r δ1 => ∃ ds z k d, ownL δ1 i ds ∧ r.d = .int z ∧ -(2 ^ 63) ≤ z ∧ z < 2 ^ 63 ∧ seqIndex? z ds.length = some k ∧ ds[k]? = some d ∧ Q (.sh d) ⟨δ1.sl.set i (some (.ow (.lst (ds.eraseIdx k)))), δ1.n⟩
section
variable {X : Cx} {G : Gx} {K : PySem.W.Frag} {E : Ent} {te : TE} {we : WE} {e o : Expr} {pos apos : Pos} {i : Nat}
theorem own_mut {δ : St3} {i j : Nat} {d d' : D} (h : δ.sl[i]? = some (some (SV.ow d))) (hj : isOwn ⟨δ.sl.set i (some (.ow d')), δ.n⟩ j) : isOwn δ j := by
  obtain ⟨e, hj⟩ := hj
  rcases get_set hj with ⟨q, z⟩ | ⟨q, z⟩
  · subst q; exact ⟨d, h⟩
  · exact ⟨e, z⟩
theorem sim_append (h : ∀ E, SimE K G E te we) : SimS K G (tDrop (tBM K "list" rAppend (tVar i) (tCons te tNil))) (wAppend i we) := fun E am M σ δ H S D3 ⟨⟨ds0, h0⟩, q⟩ De R => by
  obtain ⟨a1, a2, a3, a4, xs0, a5, a6⟩ := S.ow i _ h0
  refine ⟨_, a1, .inl ⟨rfl, xs0, SqL.of a5⟩, ?_⟩
  refine h E am M σ δ H S _ q _ fun v r δ1 H1 S1 e1 o1 rv ⟨nb, ds, h1, sz, q⟩ => ?_
  obtain ⟨b1, b2, b3, b4, xs, b5, b6⟩ := S1.ow i _ h1
  refine ⟨am i, xs, v, rfl, rfl, b5, by rw [b6.length, line16]; exact sz, R.nx am M _ _ _ (S1.mut (d' := .lst (ds ++ [r.d])) h1 ⟨xs ++ [v], upd_same, ?_⟩ rfl) q⟩
  rw [mask_upd b2]
  exact b6.append (RepAll.one (rv.k.rep nb))
theorem ds_append (i : Nat) {x : Str} {p pos2 : Pos} (he : DE X G e te we) (hx : PE X (.Name x p) (tVar i)) (hbase : attributeBase (.Name x p) "append" X.env (eval (.Name x p) X.env) = eval (.Name x p) X.env := by rfl)
    (hfew : ((backTo pos (starEach [e] X.env)).all (fun x => !x.1) && (backToKw pos (keywordEach [] X.env)).all (fun x => x.1.isSome) && decide (([e] : List Expr).length + ([] : List Keyword).length + (if ([] : List Keyword).isEmpty then 0 else 1) < 30)) = true := by rfl)
    (hline : (apos.endLine == pos.line) = true := by rfl) (hst : starEach [e] X.env = (false, eval e X.env) :: starEach [] X.env := by rfl)
    (hs : swapsWith (.Call (.Attribute (.Name x p) "append" apos) [e] [] pos) none pos2.line X.env = pure false := by rfl) : DS X G (.Expr (.Call (.Attribute (.Name x p) "append" apos) [e] [] pos) pos2) (tDrop (tBM X.K "list" rAppend (tVar i) (tCons te tNil))) (wAppend i we) :=
  ⟨ps_expr (pe_bm PySem.F.plainAttrs_list PySem.F.slot_list_append PySem.F.type_list_append mt_append hx (pa_cons he.pe pa_nil hst) hbase hfew hline hst rfl) hs, sim_append he.sim⟩
theorem sim_extend (h : ∀ E, SimE K G E te we) : SimS K G (tDrop (tBM K "list" rExtend (tVar i) (tCons te tNil))) (wExtend i we) := fun E am M σ δ H S D3 ⟨⟨ds0, h0⟩, q⟩ De R => by
  obtain ⟨a1, a2, a3, a4, xs0, a5, a6⟩ := S.ow i _ h0
  refine ⟨_, a1, .inl ⟨rfl, xs0, SqL.of a5⟩, ?_⟩
  refine h E am M σ δ H S _ q _ fun v r δ1 H1 S1 e1 o1 rv ⟨ds, es, h1, er, sz, q⟩ => ?_
  obtain ⟨b1, b2, b3, b4, xs, b5, b6⟩ := S1.ow i _ h1
  have rb := rv.k.rb S1
  rw [er] at rb
  obtain ⟨p, ys, rfl, hy, ry⟩ := rb.lst
  refine ⟨am i, p, xs, ys, rfl, rfl, b5, hy, by rw [b6.length, ry.length, line16]; exact sz, R.nx am M _ _ _ (S1.mut (d' := .lst (ds ++ es)) h1 ⟨xs ++ ys, upd_same, ?_⟩ rfl) q⟩
  rw [mask_upd b2]
  exact b6.append ry
theorem ds_extend (i : Nat) {x : Str} {p pos2 : Pos} (he : DE X G e te we) (hx : PE X (.Name x p) (tVar i)) (hbase : attributeBase (.Name x p) "extend" X.env (eval (.Name x p) X.env) = eval (.Name x p) X.env := by rfl)
    (hfew : ((backTo pos (starEach [e] X.env)).all (fun x => !x.1) && (backToKw pos (keywordEach [] X.env)).all (fun x => x.1.isSome) && decide (([e] : List Expr).length + ([] : List Keyword).length + (if ([] : List Keyword).isEmpty then 0 else 1) < 30)) = true := by rfl)
    (hline : (apos.endLine == pos.line) = true := by rfl) (hst : starEach [e] X.env = (false, eval e X.env) :: starEach [] X.env := by rfl)
    (hs : swapsWith (.Call (.Attribute (.Name x p) "extend" apos) [e] [] pos) none pos2.line X.env = pure false := by rfl) : DS X G (.Expr (.Call (.Attribute (.Name x p) "extend" apos) [e] [] pos) pos2) (tDrop (tBM X.K "list" rExtend (tVar i) (tCons te tNil))) (wExtend i we) :=
  ⟨ps_expr (pe_bm PySem.F.plainAttrs_list PySem.F.slot_list_extend PySem.F.type_list_extend mt_extend hx (pa_cons he.pe pa_nil hst) hbase hfew hline hst rfl) hs, sim_extend he.sim⟩
theorem sim_pop : SimE K G E (tBM0 K "list" rPop (tVar i)) (wPop i) := fun am M σ δ H S Qd ⟨ds, d, h0, q⟩ Q k => by
  obtain ⟨a1, a2, a3, a4, xs, a5, a6⟩ := S.ow i _ h0
  have hl : xs.length = ds.length + 1 := by rw [a6.length]; simp
  obtain ⟨v, hv, rv⟩ := a6.get (i := ds.length) (d := d) (by simp)
  refine ⟨_, a1, .inl ⟨rfl, xs, SqL.of a5⟩, am i, xs, v, rfl, rfl, a5, by rw [hl]; exact hv, ?_⟩
  have S' := S.mut (o := .lst xs.dropLast) (d' := .lst ds) h0 ⟨xs.dropLast, upd_same, by
    rw [mask_upd a2]
    have := a6.dropLast
    rwa [List.dropLast_concat] at this⟩ rfl
  exact k v (.sh d) _ _ S' (fun b u hb _ ho => by rw [upd_ne fun z => ho i ⟨_, h0⟩ z.symm]; exact hb) (fun j z => own_mut h0 z) (show Rep K G _ v d by rw [mask_upd a2]; exact rv) q
theorem sim_popAt (h : ∀ E, SimE K G E te we) : SimE K G E (tBM K "list" rPopAt (tVar i) (tCons te tNil)) (wPopAt i we) := fun am M σ δ H S Qd ⟨⟨ds0, h0⟩, q⟩ Q k => by
  obtain ⟨a1, a2, a3, a4, xs0, a5, a6⟩ := S.ow i _ h0
  refine ⟨_, a1, .inl ⟨rfl, xs0, SqL.of a5⟩, ?_⟩
  refine h E am M σ δ H S _ q _ fun v r δ1 H1 S1 e1 o1 rv ⟨ds, z, j, d, h1, er, z1, z2, hj, hd, q⟩ => ?_
  obtain ⟨b1, b2, b3, b4, xs, b5, b6⟩ := S1.ow i _ h1
  have rb := rv.k.rb S1
  rw [er] at rb
  have ev := rb.int
  subst ev
  obtain ⟨y, hy, ry⟩ := b6.get hd
  refine ⟨am i, xs, z, j, y, rfl, rfl, b5, z1, z2, by rw [b6.length]; exact hj, hy, ?_⟩
  have S' := S1.mut (o := .lst (xs.eraseIdx j)) (d' := .lst (ds.eraseIdx j)) h1 ⟨xs.eraseIdx j, upd_same, by
    rw [mask_upd b2]
    exact b6.eraseIdx j⟩ rfl
  refine k y (.sh d) _ _ S' (e1.trans o1 fun b u hb _ ho => by rw [upd_ne fun z => ho i ⟨_, h1⟩ z.symm]; exact hb) (fun j z => o1 j (own_mut h1 z)) (show Rep K G _ y d by rw [mask_upd b2]; exact ry) q
theorem de_pop (i : Nat) {x : Str} {p : Pos} (hx : PE X (.Name x p) (tVar i)) (hbase : attributeBase (.Name x p) "pop" X.env (eval (.Name x p) X.env) = eval (.Name x p) X.env := by rfl) (hline : (apos.endLine == pos.line) = true := by rfl) :
    DE X G (.Call (.Attribute (.Name x p) "pop" apos) [] [] pos) (tBM0 X.K "list" rPop (tVar i)) (wPop i) := ⟨pe_bm0 PySem.F.plainAttrs_list PySem.F.slot_list_pop PySem.F.type_list_pop mt_pop hx hbase hline, fun _ => sim_pop⟩
theorem de_popAt (i : Nat) {x : Str} {p : Pos} (he : DE X G e te we) (hx : PE X (.Name x p) (tVar i)) (hbase : attributeBase (.Name x p) "pop" X.env (eval (.Name x p) X.env) = eval (.Name x p) X.env := by rfl)
    (hfew : ((backTo pos (starEach [e] X.env)).all (fun x => !x.1) && (backToKw pos (keywordEach [] X.env)).all (fun x => x.1.isSome) && decide (([e] : List Expr).length + ([] : List Keyword).length + (if ([] : List Keyword).isEmpty then 0 else 1) < 30)) = true := by rfl)
    (hline : (apos.endLine == pos.line) = true := by rfl) (hst : starEach [e] X.env = (false, eval e X.env) :: starEach [] X.env := by rfl) :
    DE X G (.Call (.Attribute (.Name x p) "pop" apos) [e] [] pos) (tBM X.K "list" rPopAt (tVar i) (tCons te tNil)) (wPopAt i we) := ⟨pe_bm PySem.F.plainAttrs_list PySem.F.slot_list_pop PySem.F.type_list_pop mt_popAt hx (pa_cons he.pe pa_nil hst) hbase hfew hline hst rfl, fun _ => sim_popAt he.sim⟩
end
end L3
namespace L3
open PySem PySem.Spec PyProof.Rows L2
/-- a list, a tuple, a text -/
def iSeq (K : PySem.W.Frag) (te : TE) : TI := fun σ H R => te σ H fun x H1 =>
  (∃ a, x = .ref a ∧ (∃ xs, SqL K H1 a xs) ∧ R (Itl K a) H1) ∨ (∃ a, x = .ref a ∧ (∃ xs, SqT K H1 a xs) ∧ R (Itt K a) H1)
theorem pi_seq {X : Cx} {tg e : Expr} {te : TE} (he : PE X e te) : PI X tg e (iSeq X.K te) := by
  refine ⟨fun pins s σ H R I h => thn (he.run pins s σ H _ I h) fun v s1 ⟨x, H1, I1, r1, q1⟩ => ?_⟩
  have fresh : ∀ (o : Obj) (b : Addr), b ∈ [s1.heap.objs.size] → FpOk X pins H1 b := fun o b hb => by
    rw [List.mem_singleton.mp hb]
    exact I1.fpOk (Nat.le_refl _) (I1.hok.fresh (Nat.le_refl _))
  rcases q1 with ⟨a, rfl, ⟨xs, hq⟩, q⟩ | ⟨a, rfl, ⟨xs, hq⟩, q⟩
  · cases r1
    obtain ⟨its, rv, p, hz⟩ := I1.list hq
    exact wpAny_pyIter_list p.isList ⟨_, [s1.heap.objs.size], _, Itl X.K a, H1, rfl, I1.kept (t' := s1.toks) fun b o e => Heap.get?_push_of_some _ e, turn_list a _, ⟨_, Heap.get?_push_size _ rfl, rfl, rfl⟩, fresh { cls := .none, data := .fields #[] }, q⟩
  · cases r1
    obtain ⟨its, rv, p, hz⟩ := I1.tuple hq
    exact wpAny_pyIter_tuple (show s1.heap.IsTuple a its.toArray from p) ⟨_, [s1.heap.objs.size], _, Itt X.K a, H1, rfl, I1.kept (t' := s1.toks) fun b o e => Heap.get?_push_of_some _ e, turn_tuple a _, ⟨_, Heap.get?_push_size _ rfl, rfl, rfl⟩, fresh { cls := .none, data := .fields #[] }, q⟩
def asS : D → Option (List D)
  | .lst ds => some ds
  | .tup ds => some ds
  | _ => none
@[simp] theorem asS_0  (ds : List D) : asS (.lst ds) = (some ds) := rfl
@[simp] theorem asS_1  (ds : List D) : asS (.tup ds) = (some ds) := rfl
section
variable {X : Cx} {G : Gx} {K : PySem.W.Frag} {E : Ent} {tg e : Expr} {te : TE} {we : WE}
theorem sim_iS (h : SimE K G E te we) : SimI K G E (iSeq K te) (wItems asS we) := fun am M σ δ H S Rd q R k =>
  h am M σ δ H S _ q _ fun v r δ1 H1 S1 e1 o1 rv ⟨nb, ds, hd, hR⟩ => by
    have rr := rv.k.rep nb
    cases q : r.d with
    | lst ds' =>
      rw [q] at hd rr
      cases hd
      obtain ⟨a, xs, rfl, hs, r2⟩ := id rr
      refine .inl ⟨a, rfl, ⟨xs, SqL.of (mask_le _ _ hs)⟩, k (Itl K a) ds [(.ref a, .lst ds)] δ1 H1 (S1.addgh _ fun p hp => ?_) e1 o1 iterL hR⟩
      have : p = (V.ref a, D.lst ds) := by simpa using hp
      subst this
      exact rr
    | tup ds' =>
      rw [q] at hd rr
      cases hd
      obtain ⟨a, xs, rfl, hs, r2⟩ := id rr
      refine .inr ⟨a, rfl, ⟨xs, same_t mask_le hs⟩, k (Itt K a) ds [(.ref a, .tup ds)] δ1 H1 (S1.addgh _ fun p hp => ?_) e1 o1 iterT hR⟩
      have : p = (V.ref a, D.tup ds) := by simpa using hp
      subst this
      exact rr
    | _ => rw [q] at hd; cases hd
theorem di_seq (h : DE X G e te we) : DI X G tg e (iSeq X.K te) (wItems asS we) := ⟨pi_seq h.pe, fun E => sim_iS (h.sim E)⟩
end
end L3
namespace L3
open PySem PySem.Spec PyProof.Rows L2
section
variable {X : Cx} {G : Gx} {a b e : Expr} {ta tb te : TE} {wa wb we : WE} {pos p : Pos}
theorem op_eqK (K : PySem.W.Frag) (hu : X.A.units + 64 < cLine) (hK : X.K = K := by rfl) : OpR X (compareOp .Eq) (rEqA K) := by subst hK; exact op_eqA hu
theorem op_neK (K : PySem.W.Frag) (hu : X.A.units + 64 < cLine) (hK : X.K = K := by rfl) : OpR X (compareOp .NotEq) (rNeA K) := by subst hK; exact op_neA hu
theorem op_inK (K : PySem.W.Frag) (hK : X.K = K := by rfl) : OpR X (compareOp .In) (rIn K false) := by subst hK; exact op_in_seq
theorem op_niK (K : PySem.W.Frag) (hK : X.K = K := by rfl) : OpR X (compareOp .NotIn) (rIn K true) := by subst hK; exact op_notIn_seq
theorem op_addK (K : PySem.W.Frag) (hK : X.K = K := by rfl) : OpR X (binaryOp .Add) (rAddA K) := by subst hK; exact op_addA
theorem call_lenK (K : PySem.W.Frag) (hK : X.K = K := by rfl) : CallR X (.builtin "len") (rLenA K) := by subst hK; exact call_lenA
theorem call_reprK (K : PySem.W.Frag) (hg : X.A.guards = some []) (hu : X.A.units + 64 < cLine) (hK : X.K = K := by rfl) : CallR X (.builtin "repr") (rRepr K) := by subst hK; exact call_reprA hg hu
def rListC (K : PySem.W.Frag) : List V → Hp → VK → Prop := fun xs H Q => ∃ p ys, xs = [.ref p] ∧ (SqL K H p ys ∨ SqT K H p ys) ∧ ∀ l, H l = none → Q (.ref l) (upd H l (.lst ys))
def rTupleC (K : PySem.W.Frag) : List V → Hp → VK → Prop := fun xs H Q => ∃ p ys, xs = [.ref p] ∧ ((SqL K H p ys ∧ ∀ l, H l = none → Q (.ref l) (upd H l (.tup ys))) ∨ (SqT K H p ys ∧ Q (.ref p) H))
theorem call_listK (K : PySem.W.Frag) (hK : X.K = K := by rfl) : CallR X (.type "list") (rListC K) := by subst hK; exact call_list_of
theorem call_tupleK (K : PySem.W.Frag) (hK : X.K = K := by rfl) : CallR X (.type "tuple") (rTupleC K) := by subst hK; exact call_tuple_of
theorem de_ixK (K : PySem.W.Frag) (ha : DE X G a ta wa) (hb : DE X G b tb wb) (hs : PlainIx b := by exact fun _ _ => rfl) (hK : X.K = K := by rfl) : DE X G (.Subscript a b pos) (tOp (rIx K) ta tb) (wOp fIx wa wb) := by subst hK; exact de_ix ha hb hs
theorem de_addK (K : PySem.W.Frag) (ha : DE X G a ta wa) (hb : DE X G b tb wb) (hK : X.K = K := by rfl) : DE X G (.BinOp a .Add b pos) (tOp (rAddA K) ta tb) (wOp fAdd wa wb) := by subst hK; exact de_add ha hb
theorem di_seqK (K : PySem.W.Frag) {tg : Expr} (h : DE X G e te we) (hK : X.K = K := by rfl) : DI X G tg e (iSeq K te) (wItems asS we) := by subst hK; exact di_seq h
theorem dg_tupK (K : PySem.W.Frag) {es : List Expr} {k : Nat} {t : TGs} {ws : WGs} {us : List Nat} {n : Nat} (hc : X.calm = true) (h : DGs X G es us t ws) (hn : (assignEach es X.env).length = n := by rfl) (hst : (assignEach es X.env).findIdx? (·.1) = none := by rfl) (hK : X.K = K := by rfl) :
    DG X G (.Tuple es k pos) us (gTup K n t) (gTup3 n ws) := by subst hK; exact dg_tup hc h hn hst
end
section
variable {X : Cx} {Gf : Addr → Addr → Gx} {a c : Addr} {C : Con} {dd : List D} {dvs : List V} {ta tk : TA} {wa wk : WA} {k : Nat} {f : Addr} {fd : FuncData} {ps ks : List Str} {ds : List Value} {x : Str} {p pos : Pos} {e : Expr} {es : List Expr} {kws : List Keyword}
theorem de_callX (K : PySem.W.Frag) (F : FnG X.prog X.w K X.mg X.base CX0 k f fd ps (lift K Gf C)) (hr : Room k X.A) (hg : X.A.guards = some []) (hm : X.mg x = some (.ref f)) (hk : PySem.W.keepIn K (.ref f) = true) (hb : Binds K fd ps ds) (hv : Vals dvs ds) (hd : Dfl K (Gf a c) dvs dd)
    (ha : DA X (Gf a c) (e :: es) ta wa) (gl : Gl X x := by rfl) (hdb : (x == ("__debug__" : Str)) = false := by decide) (he : starEach (e :: es) X.env = (false, eval e X.env) :: starEach es X.env := by rfl) (hpl : (backTo pos (starEach es X.env)).any (·.1) = false := by rfl) (hK : X.K = K := by rfl) :
    DE X (Gf a c) (.Call (.Name x p) (e :: es) [] pos) (tCall (lift K Gf C) dvs E0 ta) (wCall C dd wa) := by subst hK; exact de_call F hr hg hm hk hb hv hd ha gl hdb he hpl
theorem de_callX0 (K : PySem.W.Frag) (F : FnG X.prog X.w K X.mg X.base CX0 k f fd ps (lift K Gf C)) (hr : Room k X.A) (hg : X.A.guards = some []) (hm : X.mg x = some (.ref f)) (hk : PySem.W.keepIn K (.ref f) = true) (hb : Binds K fd ps ds) (hv : Vals dvs ds) (hd : Dfl K (Gf a c) dvs dd)
    (gl : Gl X x := by rfl) (hdb : (x == ("__debug__" : Str)) = false := by decide) (hK : X.K = K := by rfl) : DE X (Gf a c) (.Call (.Name x p) [] [] pos) (tCall (lift K Gf C) dvs E0 tNil) (wCall C dd wNil) := by subst hK; exact de_call0 F hr hg hm hk hb hv hd gl hdb
theorem de_callXK {n m : Nat} {perm : List Nat} (K : PySem.W.Frag) (F : FnG X.prog X.w K X.mg X.base CX0 k f fd ps (lift K Gf C)) (hr : Room k X.A) (hg : X.A.guards = some []) (hm : X.mg x = some (.ref f)) (hk : PySem.W.keepIn K (.ref f) = true) (hb : KB K fd ps n ks perm ds) (hv : Vals dvs ds) (hd : Dfl K (Gf a c) dvs dd)
    (ha : DA X (Gf a c) (e :: es) ta wa) (hkw : DK X (Gf a c) kws tk wk) (gl : Gl X x := by rfl) (hall : (backToKw pos (keywordEach kws X.env)).all (·.1.isSome) = true := by rfl) (hks : (backToKw pos (keywordEach kws X.env)).filterMap (·.1) = ks := by rfl)
    (hdb : (x == ("__debug__" : Str)) = false := by decide) (he : starEach (e :: es) X.env = (false, eval e X.env) :: starEach es X.env := by rfl)
    (hpl : ((backTo pos (starEach (e :: es) X.env)).any (·.1) || (backToKw pos (keywordEach kws X.env)).any (·.1.isNone)) = false := by rfl) (hlen : ks.length = m := by rfl) (hK : X.K = K := by rfl) :
    DE X (Gf a c) (.Call (.Name x p) (e :: es) kws pos) (tCallP (lift K Gf C) n m perm dvs E0 ta tk) (wCallP C n m perm dd wa wk) := by subst hK; exact de_callK F hr hg hm hk hb hv hd ha hkw gl hall hks hdb he hpl hlen
theorem de_callXK0 {m : Nat} {perm : List Nat} (K : PySem.W.Frag) (F : FnG X.prog X.w K X.mg X.base CX0 k f fd ps (lift K Gf C)) (hr : Room k X.A) (hg : X.A.guards = some []) (hm : X.mg x = some (.ref f)) (hk : PySem.W.keepIn K (.ref f) = true) (hb : KB K fd ps 0 ks perm ds) (hv : Vals dvs ds) (hd : Dfl K (Gf a c) dvs dd)
    (hkw : DK X (Gf a c) kws tk wk) (gl : Gl X x := by rfl) (hall : (backToKw pos (keywordEach kws X.env)).all (·.1.isSome) = true := by rfl) (hks : (backToKw pos (keywordEach kws X.env)).filterMap (·.1) = ks := by rfl)
    (hdb : (x == ("__debug__" : Str)) = false := by decide) (hpl : ((backTo pos (starEach [] X.env)).any (·.1) || (backToKw pos (keywordEach kws X.env)).any (·.1.isNone)) = false := by rfl) (hlen : ks.length = m := by rfl) (hK : X.K = K := by rfl) :
    DE X (Gf a c) (.Call (.Name x p) [] kws pos) (tCallP (lift K Gf C) 0 m perm dvs E0 tNil tk) (wCallP C 0 m perm dd wNil wk) := by subst hK; exact de_callK0 F hr hg hm hk hb hv hd hkw gl hall hks hdb hpl hlen
end
end L3
namespace L3
open PySem PySem.Spec PyProof.Rows L2
theorem tuple_mul1 (l : Addr) (items : Array Value) (n : Nat) (dd : Option Addr) (sl : Array (Option Value)) (u : Tok) :
    Meets (Builtin.«tuple.__mul__» ⟨[.ref l, .int 1 u], []⟩) (fun _ R s => s.heap.get? l = some { cls := .type "tuple", dict := dd, data := .seq items n, slots := sl } ∧ R (.ok (.ret (.ref l))) s) :=
  .of_wp fun prog w A R s h => by
    obtain ⟨hp, g, d, tk, os⟩ := s
    obtain ⟨hl, h⟩ := h
    have f1 := AutoSeq1.idx_int
    wp_walk using wpAny_loadPart' hl
    repeat (first
      | (refine wpAny_ite_false (by decide) ?_; wp_walk using wpAny_loadPart' hl)
      | (refine wpAny_ite_true (by simp) ?_; wp_walk using wpAny_loadPart' hl))
    exact ⟨_, rfl, h⟩
def rRepA (K : PySem.W.Frag) : R2 := fun x y H Q => ∃ l k xs, x = .ref l ∧ y = .int k ∧ SqT K H l xs ∧ xs ≠ [] ∧ 1 ≤ k ∧ k ≤ 1000 ∧ xs.length ≤ 1000 ∧ (k = 1 → Q (.ref l) H) ∧ (k ≠ 1 → ∀ p, H p = none → Q (.ref p) (upd H p (.tup (List.replicate k.toNat xs).flatten)))
section
variable {X : Cx} {G : Gx} {K : PySem.W.Frag} {a b : Expr} {ta tb : TE} {wa wb : WE} {pos : Pos}
theorem op_repA : OpR X (binaryOp .Mult) (rRepA X.K) := by
  intro pins s σ H x y v u Q I rx ry h
  obtain ⟨l, k, xs, rfl, rfl, hT, hne, h1, h2, hz, q1, q2⟩ := h
  by_cases e : k = 1
  · subst e
    cases rx
    obtain ⟨t, rfl⟩ := ry
    obtain ⟨its, r, ⟨⟨cls, dd, data, sl⟩, ho, hc, n, hd⟩, hs⟩ := I.tuple hT
    simp only at hc hd
    subst hc hd
    refine wpAny_binaryOp_repeat_ref (T := "tuple") (U := "int") (by decide) ⟨_, ho, rfl⟩ (fun s' => typeIs_int s' 1 t) noFill_tuple_mul F.fills_int_mul F.slot_int_rmul repeat_tuple F.slot_int_index.lookup ?_
    refine call_meets F.slot_int_rmul (typeIs_int s 1 t) F.entry_int_rmul (F.args_int_rmul_2 _ _) (int_rmul_tuple 1 t l its.toArray n dd sl) ⟨ho, rfl, ⟨_, ho, rfl⟩, ?_⟩
    exact call_meets F.slot_tuple_mul ⟨_, ho, rfl⟩ F.entry_tuple_mul (F.args_tuple_mul_2 _ _) (tuple_mul1 l its.toArray n dd sl t) ⟨ho, .ref l, H, I, rfl, q1 rfl⟩
  · exact op_repT pins s σ H _ _ v u Q I rx ry ⟨l, k, xs, rfl, rfl, hT, hne, by omega, h2, hz, q2 e⟩
def fMulA : F2
  | .tup ds, .int j, Q => ds ≠ [] ∧ 1 ≤ j ∧ j ≤ 1000 ∧ ds.length ≤ 1000 ∧ Q (.sh (.tup (List.replicate j.toNat ds).flatten))
  | d, e, Q => fMul d e Q
@[simp] theorem fMulA_0 (i j : Int) (Q : RD → Prop) : fMulA (.int i) (.int j) Q = (CMulW i j ∧ Q (.sh (.int (i * j)))) := rfl
@[simp] theorem fMulA_1 (ds : List D) (j : Int) (Q : RD → Prop) : fMulA (.lst ds) (.int j) Q = (j < 2 ^ 62 ∧ -(2 ^ 62) ≤ j ∧ ds.length * j.toNat ≤ 16777216 ∧ Q (.fr (.lst (List.replicate j.toNat ds).flatten))) := rfl
@[simp] theorem fMulA_2 (ds : List D) (j : Int) (Q : RD → Prop) : fMulA (.tup ds) (.int j) Q = (ds ≠ [] ∧ 1 ≤ j ∧ j ≤ 1000 ∧ ds.length ≤ 1000 ∧ Q (.sh (.tup (List.replicate j.toNat ds).flatten))) := rfl
theorem ops_mulA : OpS K G (fun x y H Q => rMulA x y H Q ∨ rRepA K x y H Q) fMulA := fun M H x y d e al bx by' Qd h Q k => by
  by_cases z : ∃ ds j, d = .tup ds ∧ e = .int j
  · obtain ⟨ds, j, rfl, rfl⟩ := z
    obtain ⟨h0, h1, h2, h3, q⟩ := h
    have bb := bx
    obtain ⟨p, xs, rfl, hp, r⟩ := bx.tup
    refine .inr ⟨p, j, xs, rfl, by'.int, hp, fun w => ?_, h1, h2, by rw [r.length]; exact h3, fun e => ?_, fun _ p' hp' => ?_⟩
    · subst w
      exact h0 (List.length_eq_zero_iff.mp r.length.symm)
    · subst e
      have ef : (List.replicate (1 : Int).toNat ds).flatten = ds := by simp
      rw [ef] at q
      exact k _ _ H (Same.refl _) (rn_sh bb.shT) q
    · exact k _ _ _ (same_new hp') (rn_tup al hp' (r.rep _)) q
  · refine .inl (ops_mul M H x y d e al bx by' Qd ?_ Q k)
    cases d <;> cases e <;> first | exact h | exact (z ⟨_, _, rfl, rfl⟩).elim
theorem de_mulK (K : PySem.W.Frag) (ha : DE X G a ta wa) (hb : DE X G b tb wb) (hK : X.K = K := by rfl) : DE X G (.BinOp a .Mult b pos) (tOp (fun x y H Q => rMulA x y H Q ∨ rRepA K x y H Q) ta tb) (wOp fMulA wa wb) := by
  subst hK
  exact de_op (op_mulA.or op_repA) ops_mulA ha hb
end
/-- what is never asked for -/
def Cno : Con := fun _ _ _ => False
theorem FnG.never {P : Program} {w : World} {K : PySem.W.Frag} {mg : Str → Option Value} {base : Heap} {k : Nat} {f : Addr} {fd : FuncData} {ps : List Str} {Gf : Addr → Addr → Gx} : FnG P w K mg base CX0 k f fd ps (lift K Gf Cno) :=
  ⟨fun vs H Q E ⟨_, _, _, _, _, _, _, _, _, _, h, _⟩ => h.elim, fun A outer s H args us vs Q E _ _ _ _ ⟨_, _, _, _, _, _, _, _, _, _, h, _⟩ => h.elim⟩
end L3
namespace L3
open PySem PySem.Spec PyProof.Rows L2
def kCells : Key := Sum.inr "cells"
def kBlend : Key := Sum.inr "blend"
def kDraws : Key := Sum.inr "draws"
theorem k_cb : kCells ≠ kBlend := by decide +kernel
theorem k_cd : kCells ≠ kDraws := by decide +kernel
theorem k_bd : kBlend ≠ kDraws := by decide +kernel
def dkv (c : Addr) (b t : Int) : List (Key × V) := [(kCells, .ref c), (kBlend, .int b), (kDraws, .int t)]
theorem dkv_c {c : Addr} {b t : Int} : valV (dkv c b t) kCells = some (.ref c) := valV_pos rfl
theorem dkv_b {c : Addr} {b t : Int} : valV (dkv c b t) kBlend = some (.int b) := (valV_neg k_cb).trans (valV_pos rfl)
theorem dkv_d {c : Addr} {b t : Int} : valV (dkv c b t) kDraws = some (.int t) := (valV_neg k_cd).trans ((valV_neg k_bd).trans (valV_pos rfl))
theorem dkv_put {c : Addr} {b t u : Int} : putK (dkv c b t) kDraws (.int u) = dkv c b u := by
  unfold putK
  rw [valV_any, dkv_d, if_pos (show (some (V.int t)).isSome = true from rfl)]
  show [if kCells = kDraws then (kCells, V.int u) else (kCells, .ref c), if kBlend = kDraws then (kBlend, V.int u) else (kBlend, .int b), if kDraws = kDraws then (kDraws, V.int u) else (kDraws, .int t)] = _
  rw [if_neg k_cd, if_neg k_bd, if_pos rfl]
  all_goals rfl
/-- the deck stands at p, its cells at c; at most n draws were made -/
def DkA (p c : Addr) (n : Nat) (H : Hp) : Prop := ∃ (ns : List Int) (b t : Int), H p = some (.dK (dkv c b t)) ∧ H c = some (.lst (ns.map V.int)) ∧ ns.length ≤ 63 ∧ 0 ≤ b ∧ b < 2147483587 ∧ 0 ≤ t ∧ t ≤ n
def GA (cls : Nat → Addr) (fld : Nat → List Str) (p c : Addr) : Gx where
  cls := cls
  fld := fld
  deck := p
  dk := [p, c]
  DI := DkA p c
  frame := fun n H H' h ⟨ns, b, t, h1, h2, h3⟩ => ⟨ns, b, t, h p (by simp) _ h1, h c (by simp) _ h2, h3⟩
  dal := fun n H ⟨ns, b, t, h1, h2, _⟩ a ha => by
    have ha : a = p ∨ a = c := by simpa using ha
    rcases ha with z | z
    · rw [z, h1]; simp
    · rw [z, h2]; simp
/-- most draws that a law may make -/
def mostDraws : Nat := 2 ^ 40
/-- a draw: any number below the bound -/
def CdrawA : Con := fun ds n Q => ∃ m : Int, ds = [.deck, .int m] ∧ 1 ≤ m ∧ m.natAbs.log2 < 9000 ∧ n < mostDraws ∧ ∀ r : Int, 0 ≤ r → r < m → Q (.int r) (n + 1)
theorem dp_ints {K : PySem.W.Frag} {H : Hp} : ∀ ns : List Int, DpAll K H (ns.map V.int) (ns.map PyData.int)
  | [] => .nil
  | n :: ns => .cons (.int n) (dp_ints ns)
theorem lay_ints : ∀ ns : List Int, PyData.canLayAll0 (ns.map PyData.int) = true
  | [] => rfl
  | n :: ns => by
    show (PyData.canLay0 (.int n) && PyData.canLayAll0 (ns.map PyData.int)) = true
    rw [lay_ints ns]
    rfl
theorem depth_ints : ∀ ns : List Int, PyData.depthAll (ns.map PyData.int) = 0
  | [] => rfl
  | n :: ns => by
    show max (PyData.depth (.int n)) (PyData.depthAll (ns.map PyData.int)) = 0
    rw [depth_ints ns]
    rfl
theorem shaped_ints (ns : List Int) : SeqAt.shaped (.list (ns.map PyData.int)) = true := by
  unfold SeqAt.shaped
  rw [Bool.and_eq_true]
  refine ⟨lay_ints ns, decide_eq_true ?_⟩
  show PyData.depthAll (ns.map PyData.int) + 1 ≤ 64
  rw [depth_ints]
  omega
theorem shaped_tints (ns : List Int) : SeqAt.shaped (.tuple (ns.map PyData.int)) = true := by
  unfold SeqAt.shaped
  rw [Bool.and_eq_true]
  refine ⟨lay_ints ns, decide_eq_true ?_⟩
  show PyData.depthAll (ns.map PyData.int) + 1 ≤ 64
  rw [depth_ints]
  omega
theorem eqv_ints_nil (ns : List Int) : PyData.eqv (.list (ns.map PyData.int)) (.list []) = ns.isEmpty := by
  cases ns <;> rfl
section
variable {K : PySem.W.Frag} {cls : Nat → Addr} {fld : Nat → List Str}
/-- what a draw does ahead of its own mixing -/
def tDrawA (K : PySem.W.Frag) (rest : TS) : TS :=
  tSeq (sDPut (tVar 0) (tC (.str "draws")) (tOp (rI0 fun i j => .int (i + j)) (tDGet (tVar 0) (tC (.str "draws"))) (tC (.int 1))))
  (tSeq (tPar 2 3 (tCons (tDGet (tVar 0) (tC (.str "draws"))) (tCons (tDGet (tVar 0) (tC (.str "blend"))) tNil)))
  (tSeq (tIfS (tTest (tOp (rNeD K) (tDGet (tVar 0) (tC (.str "cells"))) (tLst tNil)))
    (tSeq (tAsg (tBM0 K "list" rPop (tDGet (tVar 0) (tC (.str "cells")))) (gName 3))
    (tSeq (tIfS (tTest (tOp (rI0 fun i j => .bl (decide (j ≤ i))) (tVar 3) (tOp (rI CPow fun i j => .int (i ^ j.toNat)) (tC (.int 10)) (tC (.int 18)))))
      (tSeq (tDrop (tBM K "list" rAppend (tDGet (tVar 0) (tC (.str "cells"))) (tCons (tOp (rI CDivA fun i j => .int (i.fdiv j)) (tVar 3) (tVar 1)) tNil)))
        (tRet (tOp (rI (fun _ j => j ≠ 0) fun i j => .int (i.fmod j)) (tCB (fun xs H Q => (∃ i, xs = [.int i] ∧ Q (.int i) H) ∨ ∃ k, xs = [.bl k] ∧ Q (.int (if k then 1 else 0)) H) (tCons (tVar 3) tNil)) (tVar 1)))) tNext)
      (tAsg (tOp (rI0 fun i j => .int (i + j)) (tVar 3) (tDGet (tVar 0) (tC (.str "blend")))) (gName 3)))) tNext) rest))
theorem rd_drawA {rest : TS} {wr : WS} {N : List Str} {vs : List V} {H : Hp} {Q : VK} {Ex : XK} (hN : 4 ≤ N.length) (hs : ∀ p c, SimS K (GA cls fld p c) rest wr)
    (hw : ∀ (m turn cell : Int) (n : Nat) (Qd : D → Nat → Prop), 1 ≤ m → m.natAbs.log2 < 9000 → 0 ≤ turn → turn ≤ 2 ^ 40 → (∀ r : Int, 0 ≤ r → r < m → Qd (.int r) n) →
      wr ⟨fun δ => Qd .non δ.n, Qd, fun _ => False, fun _ => False⟩ ⟨some (.sh .deck) :: some (.sh (.int m)) :: some (.sh (.int turn)) :: some (.sh (.int cell)) :: List.replicate (N.length - 4) none, n⟩)
    (h : lift K (GA cls fld) CdrawA vs H Q Ex) : tDrawA K rest { nx := fun _ H' => Q .non H', rt := Q } (L2.start N vs) H := by
  obtain ⟨p, c, ads, ds, n, Qd, hk, ha, di, r, ⟨m, rfl, m1, m2, hn, hq⟩, q⟩ := h
  have S0 := start_sr (N := N) (am := fun _ => 0) hk ha di r
  obtain ⟨x, xs, rfl, e1, y, ys, rfl, e2, e3⟩ := r
  have e1 : x = .ref p := e1
  have e2 : y = .int m := e2
  have e3 : ys = [] := e3
  subst e1 e2 e3
  obtain ⟨ns, b, t, h1, h2, hl, b0, b1, t0, t1⟩ := di
  have pc : p ≠ c := ne_of h1 h2 (by intro z; cases z)
  obtain ⟨L, hL⟩ : ∃ L, N.length = L + 4 := ⟨N.length - 4, by omega⟩
  have st : L2.start N [.ref p, .int m] = some (.ref p) :: some (.int m) :: none :: none :: List.replicate L none := by
    unfold L2.start
    rw [show N.length - ([V.ref p, V.int m] : List V).length = L + 2 by simp [hL]]
    rfl
  have st3 : start3 N [.deck, .int m] = some (.sh .deck) :: some (.sh (.int m)) :: none :: none :: List.replicate L none := by
    unfold start3
    rw [show N.length - ([D.deck, D.int m] : List D).length = L + 2 by simp [hL]]
    rfl
  have hL4 : N.length - 4 = L := by omega
  rw [hL4] at hw
  rw [st, st3] at S0
  rw [st]
  -- deck["draws"] = deck["draws"] + 1
  refine ⟨.ref p, rfl, p, .int t, rfl, ?_, t, 1, rfl, rfl, .ref p, rfl, p, _, rfl, DPut.k (k := kDraws) h1 (small1000 (by show 3 ≤ 1000; omega)), ?_⟩
  · have := DGet.k (k := kDraws) h1; rw [dkv_d] at this; exact this
  rw [dkv_put]
  have g1 : upd H p (.dK (dkv c b (t + 1))) p = some (.dK (dkv c b (t + 1))) := upd_same
  have g2 : upd H p (.dK (dkv c b (t + 1))) c = some (.lst (ns.map V.int)) := by rw [upd_ne pc.symm]; exact h2
  have gd : ∀ {H : Hp} {b t : Int}, H p = some (.dK (dkv c b t)) → DGet H p (.str "draws") (some (.int t)) := fun h => by
    have := DGet.k (k := kDraws) h; rw [dkv_d] at this; exact this
  have gb : ∀ {H : Hp} {b t : Int}, H p = some (.dK (dkv c b t)) → DGet H p (.str "blend") (some (.int b)) := fun h => by
    have := DGet.k (k := kBlend) h; rw [dkv_b] at this; exact this
  have gc : ∀ {H : Hp} {b t : Int}, H p = some (.dK (dkv c b t)) → DGet H p (.str "cells") (some (.ref c)) := fun h => by
    have := DGet.k (k := kCells) h; rw [dkv_c] at this; exact this
  -- turn, cell = deck["draws"], deck["blend"]
  refine ⟨.ref p, rfl, p, .int (t + 1), rfl, gd g1, .ref p, rfl, p, .int b, rfl, gb g1, _, _, rfl, ?_⟩
  -- the end by the rest
  have fin : ∀ (cell : Int) (H' : Hp) (ms : List Int), H' p = some (.dK (dkv c b (t + 1))) → H' c = some (.lst (ms.map V.int)) → ms.length ≤ 63 → (∀ x o, H x = some o → x ∉ [p, c] → H' x = some o) →
      rest { nx := fun _ H' => Q .non H', rt := Q } (some (.ref p) :: some (.int m) :: some (.int (t + 1)) :: some (.int cell) :: List.replicate L none) H' := fun cell H' ms k1 k2 k3 k4 => by
    have di' : DkA p c (n + 1) H' := ⟨ms, b, t + 1, k1, k2, k3, b0, b1, by omega, by omega⟩
    have S1 := (S0.after (n := n + 1) k4 di')
    have S2 := (S1.set_sh (i := 2) (v := .int (t + 1)) (d := .int (t + 1)) rfl).set_sh (i := 3) (v := .int cell) (d := .int cell) rfl
    refine hs p c _ _ _ _ _ _ S2 _ (hw m (t + 1) cell (n + 1) Qd m1 m2 (by omega) ?_ hq) _ ⟨fun am M σ δ H' S' z => q .non .non _ H' S'.base S'.di rfl z, fun _ _ _ _ _ _ z => z, fun _ _ _ _ _ _ z => z, fun v d n' H' rv hb di z => q v d n' H' hb di rv z⟩
    have : n < 2 ^ 40 := hn
    omega
  -- if deck["cells"] != []
  refine ⟨.ref p, rfl, p, .ref c, rfl, gc g1, Nat.zero_le _, fun l hl0 => ?_⟩
  have lp : p ≠ l := ne_of_none g1 hl0
  have lc : c ≠ l := ne_of_none g2 hl0
  have f1 : upd (upd H p (.dK (dkv c b (t + 1)))) l (.lst []) p = some (.dK (dkv c b (t + 1))) := by rw [upd_ne lp]; exact g1
  have f2 : upd (upd H p (.dK (dkv c b (t + 1)))) l (.lst []) c = some (.lst (ns.map V.int)) := by rw [upd_ne lc]; exact g2
  have f0 : ∀ x o, H x = some o → x ∉ [p, c] → upd (upd H p (.dK (dkv c b (t + 1)))) l (.lst []) x = some o := fun x o hx hn => by
    have n1 : x ≠ p := fun z => hn (by simp [z])
    have n2 : x ≠ l := by
      refine ne_of_none (H := upd H p (.dK (dkv c b (t + 1)))) (o := o) ?_ hl0
      rw [upd_ne n1]; exact hx
    rw [upd_ne n2, upd_ne n1]; exact hx
  refine ⟨.list (ns.map PyData.int), .list [], .lst (SqL.of f2) (dp_ints ns), .lst (SqL.of upd_same) .nil, shaped_ints ns, rfl, _, rfl, ?_⟩
  rw [eqv_ints_nil]
  cases hns : ns with
  | nil =>
    rw [hns] at f2
    exact fin b _ [] f1 f2 (Nat.zero_le _) f0
  | cons n0 ns0 =>
    rw [if_pos (show (!(n0 :: ns0).isEmpty) = true from rfl)]
    rw [hns] at f2 hl
    obtain ⟨ms, z, ez⟩ : ∃ ms z, n0 :: ns0 = ms ++ [z] := ⟨(n0 :: ns0).dropLast, (n0 :: ns0).getLast (List.cons_ne_nil _ _), (List.dropLast_concat_getLast _).symm⟩
    rw [ez] at f2 hl
    have em : (ms ++ [z]).map V.int = ms.map V.int ++ [V.int z] := by rw [List.map_append]; rfl
    rw [em] at f2
    have lm : ms.length ≤ 62 := by rw [List.length_append] at hl; simp at hl; omega
    -- cell = deck["cells"].pop()
    refine ⟨.ref p, rfl, p, .ref c, rfl, gc f1, .inl ⟨rfl, _, SqL.of f2⟩, c, _, .int z, rfl, rfl, f2, by simp, ?_⟩
    rw [List.dropLast_concat]
    have u1 : upd (upd (upd H p (.dK (dkv c b (t + 1)))) l (.lst [])) c (.lst (ms.map V.int)) p = some (.dK (dkv c b (t + 1))) := by rw [upd_ne pc]; exact f1
    have u0 : ∀ (o' : HO) x o, H x = some o → x ∉ [p, c] → upd (upd (upd H p (.dK (dkv c b (t + 1)))) l (.lst [])) c o' x = some o := fun o' x o hx hn => by
      have n1 : x ≠ c := fun w => hn (by simp [w])
      rw [upd_ne n1]; exact f0 x o hx hn
    -- if cell >= 10 ** 18
    refine ⟨.int z, rfl, 10, 18, rfl, rfl, ⟨by decide, by decide, by decide⟩, _, _, rfl, rfl, _, rfl, ite2 (fun _ => ?_) (fun _ => ?_)⟩
    · -- deck["cells"].append(cell // many); return int(cell) % many
      refine ⟨.ref p, rfl, p, .ref c, rfl, gc u1, .inl ⟨rfl, _, SqL.of upd_same⟩, .int z, rfl, .int m, rfl, z, m, rfl, rfl, ⟨by omega, m2⟩, c, _, _, rfl, rfl, upd_same, ?_, ?_⟩
      · rw [List.length_map]; exact small1000 (by omega)
      · refine ⟨.int z, rfl, .inl ⟨z, rfl, .int m, rfl, z, m, rfl, rfl, by omega, ?_⟩⟩
        have um : (upd (upd (upd (upd H p (.dK (dkv c b (t + 1)))) l (.lst [])) c (.lst (ms.map V.int))) c (.lst (ms.map V.int ++ [V.int (z.fdiv m)]))) = upd (upd (upd H p (.dK (dkv c b (t + 1)))) l (.lst [])) c (.lst (ms.map V.int ++ [V.int (z.fdiv m)])) := upd_upd
        rw [um]
        refine q (.int (z.fmod m)) (.int (z.fmod m)) (n + 1) _ (u0 _) ⟨ms ++ [z.fdiv m], b, t + 1, ?_, ?_, ?_, b0, b1, by omega, by omega⟩ rfl (hq _ (Int.fmod_nonneg_of_pos _ (by omega)) (Int.fmod_lt_of_pos _ (by omega)))
        · rw [upd_ne pc]; exact f1
        · rw [upd_same, List.map_append]; rfl
        · rw [List.length_append]; simp; omega
    · -- cell = cell + deck["blend"]
      refine ⟨.int z, rfl, .ref p, rfl, p, .int b, rfl, gb u1, z, b, rfl, rfl, ?_⟩
      exact fin (z + b) _ ms u1 upd_same (by omega) (u0 _)
end
end L3
namespace L3
open PySem PySem.Spec PyProof.Rows L2
abbrev tInt1 (ta : TA) : TE := tCB (fun xs H Q => (∃ i, xs = [.int i] ∧ Q (.int i) H) ∨ ∃ k, xs = [.bl k] ∧ Q (.int (if k then 1 else 0)) H) ta
abbrev tModN (a b : TE) : TE := tOp (rI (fun _ j => j ≠ 0) fun i j => .int (i.fmod j)) a b
abbrev tAddI (a b : TE) : TE := tOp (rI0 fun i j => .int (i + j)) a b
abbrev tMulI (a b : TE) : TE := tOp (rI CMul fun i j => .int (i * j)) a b
section
variable {K : PySem.W.Frag} {cls : Nat → Addr} {fld : Nat → List Str}
def tDeckA (K : PySem.W.Frag) (c0 k1 : Int) : TS :=
  tSeq (tPar 1 2 (tCons (tCB (fun xs H Q => ∃ p ys, xs = [.ref p] ∧ (SqL K H p ys ∨ SqT K H p ys) ∧ ∀ l, H l = none → Q (.ref l) (upd H l (.lst ys))) (tCons (tSl (rSlL K) (tVar 0) tNoPart (tPart (tC (.int 63)))) tNil)) (tCons (tC (.int c0)) tNil)))
  (tSeq (tFor (iList K (tVar 1)) (gName 3) (tAsg (tModN (tInt1 (tCons (tAddI (tAddI (tMulI (tVar 2) (tC (.int 48271))) (tModN (tInt1 (tCons (tVar 3) tNil)) (tC (.int 2147483629)))) (tC (.int k1))) tNil)) (tC (.int 2147483587))) (gName 2)))
  (tRet (tDisp [(tC (.str "cells"), tRevL K (tVar 1)), (tC (.str "blend"), tVar 2), (tC (.str "draws"), tC (.int 0))])))
def spDeckA (K : PySem.W.Frag) : Sp := fun vs H Q _ => ∃ (a : Addr) (ns : List Int), vs = [.ref a] ∧ SqL K H a (ns.map V.int) ∧ ns.length ≤ 63 ∧
  ∀ (p c : Addr) (H' : Hp), Same H H' → DkA p c 0 H' → H p = none → H c = none → Q (.ref p) H'
theorem merge_dkv {q : Addr} {b t : Int} : mergeK [] (dkv q b t) = dkv q b t := by
  show putK (putK (putK [] kCells (.ref q)) kBlend (.int b)) kDraws (.int t) = _
  have e1 : putK ([] : List (Key × V)) kCells (.ref q) = [(kCells, .ref q)] := putK_new _ rfl
  have e2 : putK [(kCells, V.ref q)] kBlend (.int b) = [(kCells, .ref q), (kBlend, .int b)] := putK_new _ ((valV_neg k_cb).trans rfl)
  have e3 : putK [(kCells, V.ref q), (kBlend, V.int b)] kDraws (.int t) = [(kCells, .ref q), (kBlend, .int b), (kDraws, .int t)] := putK_new _ ((valV_neg k_cd).trans ((valV_neg k_bd).trans rfl))
  rw [e1, e2, e3]
  all_goals rfl
theorem rd_deckA {c0 k1 : Int} {N : List Str} {vs : List V} {H : Hp} {Q : VK} {Ex : XK} (hN : N.length = 4) (hc0 : 0 ≤ c0 ∧ c0 < 2147483587) (h : spDeckA K vs H Q Ex) : tDeckA K c0 k1 { nx := fun _ H' => Q .non H', rt := Q } (L2.start N vs) H := by
  obtain ⟨a, ns, rfl, hS, hl, q⟩ := h
  have st : L2.start N [.ref a] = [some (.ref a), none, none, none] := by
    unfold L2.start
    rw [show N.length - ([V.ref a] : List V).length = 3 by simp [hN]]
    rfl
  rw [st]
  -- cells, blend = list(script[:63]), c0
  refine ⟨.ref a, rfl, 63, rfl, a, _, rfl, hS, fun p1 hp1 => ?_⟩
  have s1 := same_new (o := .lst (cutV (ns.map V.int) none (some 63))) hp1
  refine ⟨p1, _, rfl, .inl (SqL.of upd_same), fun l hl0 => ?_⟩
  have ecut : cutV (ns.map V.int) none (some 63) = ns.map V.int := by
    unfold cutV
    rw [HT.sIx_none, show HT.sIx (ns.map V.int).length (ns.map V.int).length (some 63) = min 63 (ns.map V.int).length from HT.sIx_nat _ _ 63, List.length_map, Nat.sub_zero, List.drop_zero]
    exact List.take_of_length_le (by rw [List.length_map]; omega)
  rw [ecut] at s1 hl0 ⊢
  have s2 := s1.trans (same_new (o := .lst (ns.map V.int)) hl0)
  refine ⟨_, _, rfl, ?_⟩
  -- the loop
  have hlst : upd (upd H p1 (.lst (ns.map V.int))) l (.lst (ns.map V.int)) l = some (.lst (ns.map V.int)) := upd_same
  refine ⟨.ref l, rfl, l, rfl, ⟨_, SqL.of hlst⟩, for_list (K := K) (a := l) (xs := ns.map V.int) (fun i σ H3 => ∃ (b : Int) (x : Option V), σ = [some (.ref a), some (.ref l), some (.int b), x] ∧ H3 = upd (upd H p1 (.lst (ns.map V.int))) l (.lst (ns.map V.int)) ∧ 0 ≤ b ∧ b < 2147483587)
    ⟨c0, none, rfl, rfl, hc0⟩ (fun i σ H3 _ ⟨_, _, _, e, _⟩ => by rw [e]; exact SqL.of hlst) ?_ ?_⟩
  · rintro i x σ H3 hx ⟨b, y, rfl, rfl, b0, b1⟩
    obtain ⟨z, rfl⟩ : ∃ z, x = V.int z := by
      rw [List.getElem?_map] at hx
      cases e : ns[i]? with
      | none => rw [e] at hx; cases hx
      | some z => rw [e] at hx; exact ⟨z, (Option.some.inj hx).symm⟩
    refine ⟨.int b, rfl, b, 48271, rfl, rfl, .inl ⟨by omega, by omega⟩, .int z, rfl, .inl ⟨z, rfl, z, 2147483629, rfl, rfl, (show (2147483629 : Int) ≠ 0 by decide), _, _, rfl, rfl, _, _, rfl, rfl, .inl ⟨_, rfl, _, 2147483587, rfl, rfl, (show (2147483587 : Int) ≠ 0 by decide), ?_⟩⟩⟩
    exact ⟨_, _, rfl, rfl, Int.fmod_nonneg_of_pos _ (by decide), Int.fmod_lt_of_pos _ (by decide)⟩
  · rintro σ H3 ⟨b, y, rfl, rfl, b0, b1⟩
    -- return {..}
    intro p hp
    have pl : l ≠ p := ne_of_none hlst hp
    refine ⟨.ref l, rfl, l, _, rfl, SqL.of (by rw [upd_ne pl]; exact hlst), fun c hc => ?_⟩
    have pc : p ≠ c := ne_of_none (H := upd _ p (.dK [])) upd_same hc
    refine ⟨.int b, rfl, by rw [upd_ne pc, upd_same], dkv c b 0, rfl, (show 3 ≤ 15 by omega), ?_⟩
    rw [merge_dkv]
    have sp : Same _ _ := same_new (o := .dK []) hp
    have s3 : Same H (upd (upd (upd (upd H p1 (.lst (ns.map V.int))) l (.lst (ns.map V.int))) p (.dK [])) c (.lst (ns.map V.int).reverse)) := (s2.trans (same_new hp)).trans (same_new hc)
    refine q p c _ (fun x o hx => ?_) ⟨ns.reverse, b, 0, upd_same, ?_, by rw [List.length_reverse]; exact hl, b0, b1, Int.le_refl _, Int.le_refl _⟩ (s2.free hp) ((s2.trans (same_new hp)).free hc)
    · rw [upd_ne (ne_of_none (s2 _ _ hx) hp)]
      exact s3 x o hx
    · rw [upd_ne pc.symm, upd_same, List.map_reverse]
/-- the law: its deck, then the rest over data; it hands back True -/
def spLaw (K : PySem.W.Frag) : Sp := fun vs H Q _ => ∃ (a : Addr) (ns : List Int), vs = [.ref a] ∧ SqL K H a (ns.map V.int) ∧ ns.length ≤ 63 ∧ ∀ H', Q (.bl true) H'
theorem rd_lawA {rest : TS} {wr : WS} {N : List Str} {vs : List V} {H : Hp} {Q : VK} {Ex E1 : XK} (hN : 2 ≤ N.length) (hs : ∀ p c, SimS K (GA cls fld p c) rest wr)
    (hw : wr ⟨fun _ => False, fun d _ => d = .bl true, fun _ => False, fun _ => False⟩ ⟨none :: some (.sh .deck) :: List.replicate (N.length - 2) none, 0⟩)
    (h : spLaw K vs H Q Ex) : tSeq (tAsg (tCall (spDeckA K) [] E1 (tCons (tVar 0) tNil)) (gName 1)) rest { nx := fun _ H' => Q .non H', rt := Q } (L2.start N vs) H := by
  obtain ⟨a, ns, rfl, hS, hl, q⟩ := h
  obtain ⟨L, hL⟩ : ∃ L, N.length = L + 2 := ⟨N.length - 2, by omega⟩
  have st : L2.start N [.ref a] = some (.ref a) :: none :: List.replicate L none := by
    unfold L2.start
    rw [show N.length - ([V.ref a] : List V).length = L + 1 by simp [hL]]
    rfl
  rw [show N.length - 2 = L by omega] at hw
  rw [st]
  refine ⟨.ref a, rfl, a, ns, rfl, hS, hl, fun p c H1 s1 dk hp hc => ?_⟩
  have dk' := dk
  obtain ⟨cs, b, t, h1, h2, _⟩ := dk'
  have S : SR K (GA cls fld p c) ⟨H1, [p, c], [], none⟩ (fun _ => 0) [p, c] (some (.ref a) :: some (.ref p) :: List.replicate L none) ⟨none :: some (.sh .deck) :: List.replicate L none, 0⟩ H1 := by
    have no : ∀ (i : Nat) (x : SV), (none :: some (.sh .deck) :: List.replicate L none : List (Option SV))[i]? = some (some x) → i = 1 ∧ x = .sh .deck := fun i x e => by
      match i with
      | 0 => cases e
      | 1 => exact ⟨rfl, by injection e with e; injection e with e; exact e.symm⟩
      | i + 2 =>
        have e : (List.replicate L (none : Option SV))[i]? = some (some x) := e
        rw [List.getElem?_replicate] at e
        split at e <;> cases e
    refine ⟨by simp, fun i d e => ?_, fun i d e => ?_, fun i j ⟨d, e⟩ _ _ => ?_, fun a z => z, fun a z => z, fun a z => ?_, fun b o e _ => e, dk, fun p hp => (by cases hp), fun x hx => (by cases hx)⟩
    · obtain ⟨rfl, e2⟩ := no i _ e
      cases e2
      exact ⟨_, rfl, rfl⟩
    · obtain ⟨_, e2⟩ := no i _ e
      cases e2
    · obtain ⟨_, e2⟩ := no i _ e
      cases e2
    · exact (GA cls fld p c).dal 0 H1 dk a z
  exact hs p c _ _ _ _ _ _ S _ hw _ ⟨fun _ _ _ _ _ _ z => z.elim, fun _ _ _ _ _ _ z => z.elim, fun _ _ _ _ _ _ z => z.elim, fun v d n H' rv _ _ z => by
    have z : d = .bl true := z
    subst z
    have rv : v = .bl true := rv
    subst rv
    exact q H'⟩
end
end L3
namespace L3
open PySem PySem.Spec PyProof.Rows L2
theorem wLoop_of {g : WG} {b : WS} {De : Ends3} (I : Nat → St3 → Prop) : ∀ (ds : List D) (k : Nat) (δ : St3), I k δ →
    (∀ (i : Nat) (d : D) (δ : St3), ds[i]? = some d → I (k + i) δ → ∀ N : St3 → Prop, (∀ δ, I (k + i + 1) δ → N δ) → g d δ fun δ1 => b ⟨N, De.rt, De.nx, N⟩ δ1) →
    (∀ δ, I (k + ds.length) δ → De.nx δ) → wLoop g b De ds δ
  | [], k, δ, h0, _, hn => hn δ h0
  | d :: ds, k, δ, h0, hs, hn => hs 0 d δ rfl h0 _ fun δ1 h1 => wLoop_of I ds (k + 1) δ1 h1 (fun i d' δ' hd hi N hN => hs (i + 1) d' δ' hd (by rw [show k + (i + 1) = k + 1 + i by omega]; exact hi) N fun δ2 h2 => hN δ2 (by rw [show k + 1 + i + 1 = k + (i + 1) + 1 by omega]; exact h2))
      fun δ2 h2 => hn δ2 (by rw [show k + (d :: ds).length = k + 1 + ds.length by simp only [List.length_cons]; omega]; exact h2)
/-- a loop, by what holds ahead of the item of each index -/
theorem wLoop_inv {g : WG} {b : WS} {De : Ends3} {ds : List D} {δ : St3} (I : Nat → St3 → Prop) (h0 : I 0 δ)
    (hs : ∀ (i : Nat) (d : D) (δ : St3), ds[i]? = some d → I i δ → ∀ N : St3 → Prop, (∀ δ, I (i + 1) δ → N δ) → g d δ fun δ1 => b ⟨N, De.rt, De.nx, N⟩ δ1) (hn : ∀ δ, I ds.length δ → De.nx δ) : wLoop g b De ds δ :=
  wLoop_of I ds 0 δ h0 (fun i d δ hd hi N hN => hs i d δ hd (by rwa [Nat.zero_add] at hi) N fun δ h => hN δ (by rwa [Nat.zero_add])) fun δ h => hn δ (by rwa [Nat.zero_add] at h)
theorem wLc_of {g : WG} {t : WT} {w : WE} {vs : List Nat} {Q : List D → St3 → Prop} (I : Nat → List D → St3 → Prop) : ∀ (ds : List D) (k : Nat) (acc : List D) (δ : St3), I k acc δ →
    (∀ (i : Nat) (d : D) (acc : List D) (δ : St3), ds[i]? = some d → I (k + i) acc δ → ∀ N : List D → St3 → Prop, (∀ acc δ, I (k + i + 1) acc δ → N acc δ) → g d δ fun δ1 => t δ1 fun b δ2 =>
      (b = true → w δ2 fun q δ3 => ¬ q.bor ∧ acc.length < 16777216 ∧ N (acc ++ [q.d]) ⟨wipe3 δ3.sl vs, δ3.n⟩) ∧ (b = false → N acc ⟨wipe3 δ2.sl vs, δ2.n⟩)) →
    (∀ acc δ, I (k + ds.length) acc δ → Q acc δ) → wLcGo g t w vs Q ds acc δ
  | [], k, acc, δ, h0, _, hn => hn acc δ h0
  | d :: ds, k, acc, δ, h0, hs, hn => hs 0 d acc δ rfl h0 _ fun acc1 δ1 h1 => wLc_of I ds (k + 1) acc1 δ1 h1 (fun i d' acc' δ' hd hi N hN => hs (i + 1) d' acc' δ' hd (by rw [show k + (i + 1) = k + 1 + i by omega]; exact hi) N fun acc2 δ2 h2 => hN acc2 δ2 (by rw [show k + 1 + i + 1 = k + (i + 1) + 1 by omega]; exact h2))
      fun acc2 δ2 h2 => hn acc2 δ2 (by rw [show k + (d :: ds).length = k + 1 + ds.length by simp only [List.length_cons]; omega]; exact h2)
theorem wLc_inv {g : WG} {t : WT} {w : WE} {vs : List Nat} {Q : List D → St3 → Prop} {ds acc : List D} {δ : St3} (I : Nat → List D → St3 → Prop) (h0 : I 0 acc δ)
    (hs : ∀ (i : Nat) (d : D) (acc : List D) (δ : St3), ds[i]? = some d → I i acc δ → ∀ N : List D → St3 → Prop, (∀ acc δ, I (i + 1) acc δ → N acc δ) → g d δ fun δ1 => t δ1 fun b δ2 =>
      (b = true → w δ2 fun q δ3 => ¬ q.bor ∧ acc.length < 16777216 ∧ N (acc ++ [q.d]) ⟨wipe3 δ3.sl vs, δ3.n⟩) ∧ (b = false → N acc ⟨wipe3 δ2.sl vs, δ2.n⟩))
    (hn : ∀ acc δ, I ds.length acc δ → Q acc δ) : wLcGo g t w vs Q ds acc δ :=
  wLc_of I ds 0 acc δ h0 (fun i d acc δ hd hi N hN => hs i d acc δ hd (by rwa [Nat.zero_add] at hi) N fun acc δ h => hN acc δ (by rwa [Nat.zero_add])) fun acc δ h => hn acc δ (by rwa [Nat.zero_add] at h)
@[simp] theorem isIns_lst (d : List D) : (D.lst d).isIns = false := rfl
@[simp] theorem isIns_tup (d : List D) : (D.tup d).isIns = false := rfl
@[simp] theorem isIns_dct (k : List Key) (d : List D) : (D.dct k d).isIns = false := rfl
def isB : D → (Bool → Prop) → Prop
  | .bl k, Q => Q k
  | _, _ => False
@[simp] theorem isB_0  (k : Bool) (Q : Bool → Prop) : isB (.bl k) Q = (Q k) := rfl
theorem isB_eq (d : D) (Q : Bool → Prop) : (∃ k, d = .bl k ∧ Q k) = isB d Q := by
  cases d <;> simp [isB]
@[simp] theorem wTest_eq (w : WE) (δ : St3) (Q : Bool → St3 → Prop) : wTest w δ Q = w δ fun r δ1 => isB r.d fun k => Q k δ1 := by
  unfold wTest
  simp only [isB_eq]
@[simp] theorem wChain_eq (f f' : F2) (a b c : WE) (δ : St3) (Q : RD → St3 → Prop) : wChain f f' a b c δ Q = a δ fun x δ1 => b δ1 fun y δ2 => (x.bor → δ2.sl = δ1.sl) ∧ f x.d y.d fun q => isB q.d fun k =>
    (k = true → c δ2 fun z δ3 => (y.bor → δ3.sl = δ2.sl) ∧ f' y.d z.d fun q' => Q q' δ3) ∧ (k = false → Q (.sh (.bl false)) δ2) := by
  unfold wChain
  simp only [isB_eq]
@[simp] theorem wAndV_eq (a b : WE) (δ : St3) (Q : RD → St3 → Prop) : wAndV a b δ Q = a δ fun x δ1 => isB x.d fun k => (k = true → b δ1 Q) ∧ (k = false → Q (.sh (.bl false)) δ1) := by
  unfold wAndV
  simp only [isB_eq]
@[simp] theorem wOrV_eq (a b : WE) (δ : St3) (Q : RD → St3 → Prop) : wOrV a b δ Q = a δ fun x δ1 => isB x.d fun k => (k = false → b δ1 Q) ∧ (k = true → Q (.sh (.bl true)) δ1) := by
  unfold wOrV
  simp only [isB_eq]
@[simp] theorem wNotV_eq (a : WE) (δ : St3) (Q : RD → St3 → Prop) : wNotV a δ Q = a δ fun x δ1 => isB x.d fun k => Q (.sh (.bl (!k))) δ1 := by
  unfold wNotV
  simp only [isB_eq]
def unc : List D → (D → List D → Prop) → Prop
  | d :: r, Q => Q d r
  | [], _ => False
@[simp] theorem unc_0 (d : D) (r : List D) (Q : D → List D → Prop) : unc (d :: r) Q = Q d r := rfl
@[simp] theorem gCons3_eq (g : WG) (t : WGs) (ds : List D) (δ : St3) (Q : St3 → Prop) : gCons3 g t ds δ Q = unc ds fun d r => g d δ fun δ1 => t r δ1 Q := by
  cases ds with
  | nil => simp [gCons3, unc]
  | cons d r =>
    refine propext ⟨fun ⟨d', r', h, q⟩ => ?_, fun q => ⟨d, r, rfl, q⟩⟩
    cases h
    exact q
theorem log_lt {n k : Nat} (hk : 0 < k) (h : n < 2 ^ k) : n.log2 < k := by
  by_cases z : n = 0
  · subst z; simpa using hk
  · exact (Nat.log2_lt z).mpr h
/-- below 2 ^ k, either sign -/
def Sz (k : Nat) (i : Int) : Prop := i.natAbs < 2 ^ k
theorem Sz.mono {k l : Nat} {i : Int} (h : Sz k i) (hl : k ≤ l) : Sz l i := Nat.lt_of_lt_of_le h (Nat.pow_le_pow_right (by omega) hl)
theorem Sz.mul {k l : Nat} {i j : Int} (h : Sz k i) (h' : Sz l j) : Sz (k + l) (i * j) := by
  unfold Sz at *
  rw [Int.natAbs_mul, Nat.pow_add]
  exact Nat.mul_lt_mul'' h h'
theorem Sz.add {k l : Nat} {i j : Int} (h : Sz k i) (h' : Sz l j) : Sz (max k l + 1) (i + j) := by
  have a : Sz (max k l) i := h.mono (Nat.le_max_left _ _)
  have b : Sz (max k l) j := h'.mono (Nat.le_max_right _ _)
  unfold Sz at *
  have := Int.natAbs_add_le i j
  rw [Nat.pow_succ]
  omega
theorem Sz.neg {k : Nat} {i : Int} (h : Sz k i) : Sz k (-i) := by unfold Sz at *; rwa [Int.natAbs_neg]
theorem Sz.sub {k l : Nat} {i j : Int} (h : Sz k i) (h' : Sz l j) : Sz (max k l + 1) (i - j) := h.add h'.neg
theorem Sz.emod {k : Nat} {i j : Int} (h : Sz k j) (h0 : 0 < j) : Sz k (i.fmod j) := by
  unfold Sz at *
  have a := Int.fmod_nonneg_of_pos i h0
  have b := Int.fmod_lt_of_pos i h0
  omega
theorem Sz.of {k : Nat} {i : Int} (a : -(2 ^ k : Int) < i) (b : i < 2 ^ k) : Sz k i := by
  unfold Sz
  have : ((2 ^ k : Nat) : Int) = (2 : Int) ^ k := by simp
  omega
theorem Sz.pos {k : Nat} {i : Int} (a : 0 ≤ i) (b : i < 2 ^ k) : Sz k i := by
  refine Sz.of ?_ b
  have : (0 : Int) < 2 ^ k := Int.pow_pos (by omega)
  omega
theorem Sz.lt {k : Nat} {i : Int} (h : Sz k i) : i < 2 ^ k := by
  unfold Sz at h
  have : ((2 ^ k : Nat) : Int) = (2 : Int) ^ k := by simp
  omega
theorem Sz.log {k l : Nat} {i : Int} (h : Sz k i) (hl : k ≤ l) (h0 : 0 < k) : i.natAbs.log2 < l := Nat.lt_of_lt_of_le (log_lt h0 h) hl
theorem Sz.cmul {k l : Nat} {i j : Int} (h : Sz k i) (h' : Sz l j) (hs : k + l < 1000000) : CMulW i j := by
  have a : i.natAbs.log2 < k + 1 := log_lt (by omega) (h.mono (by omega : k ≤ k + 1))
  have b : j.natAbs.log2 < l + 1 := log_lt (by omega) (h'.mono (by omega : l ≤ l + 1))
  unfold CMulW
  omega
theorem Sz.cdiv {k : Nat} {i j : Int} (h : Sz k j) (h0 : j ≠ 0) (hk : k ≤ 9000) : CDivA i j := ⟨h0, by
  have : j.natAbs.log2 < k + 1 := log_lt (by omega) (h.mono (by omega : k ≤ k + 1))
  rcases Nat.eq_zero_or_pos k with z | z
  · subst z
    unfold Sz at h
    omega
  · exact Nat.lt_of_lt_of_le (log_lt z h) hk⟩
instance {k : Nat} {i : Int} : Decidable (Sz k i) := inferInstanceAs (Decidable (i.natAbs < 2 ^ k))
theorem Sz.n {k : Nat} {i : Int} (h : decide (i.natAbs < 2 ^ k) = true) : Sz k i := of_decide_eq_true h
theorem fmod_pos {i j : Int} (h : 0 ≤ j) : i.fmod j = i % j := Int.fmod_eq_emod_of_nonneg i h
theorem fdiv_pos {i j : Int} (h : 0 ≤ j) : i.fdiv j = i / j := Int.fdiv_eq_ediv_of_nonneg i h
def wMixA (a k e : Int) : WS :=
  wSeq (wAsg 4 (wOp fMod (wCB fInt (wCons (wOp fMulA (wOp fAdd (wOp fAdd (wOp fMod (wCB fInt (wCons (wVar 3) wNil)) (wC (.int 2147483629))) (wOp fMulA (wOp fMulA (wC (.int a)) (wVar 2)) (wVar 2))) (wC (.int k))) (wC (.int 40692))) wNil)) (wC (.int 2147483647))))
    (wSeq (wAsg 4 (wOp fMod (wCB fInt (wCons (wOp fAdd (wOp fAdd (wOp fMulA (wVar 4) (wVar 4)) (wOp fMulA (wC (.int 69621)) (wVar 2))) (wC (.int e))) wNil)) (wC (.int 2147483587))))
    (wRet (wOp fMod (wCB fInt (wCons (wOp fFdiv (wOp fMod (wCB fInt (wCons (wOp fMulA (wVar 4) (wC (.int 39373))) wNil)) (wC (.int 2147483563))) (wC (.int 64))) wNil)) (wVar 1))))
theorem mixA {a k e : Int} (ha : Sz 20 a) (hk : Sz 20 k) (m turn cell : Int) (n : Nat) (Qd : D → Nat → Prop) (m1 : 1 ≤ m) (m2 : m.natAbs.log2 < 9000) (t0 : 0 ≤ turn) (t1 : turn ≤ 2 ^ 40) (q : ∀ r : Int, 0 ≤ r → r < m → Qd (.int r) n) :
    wMixA a k e ⟨fun δ => Qd .non δ.n, Qd, fun _ => False, fun _ => False⟩ ⟨some (.sh .deck) :: some (.sh (.int m)) :: some (.sh (.int turn)) :: some (.sh (.int cell)) :: [none], n⟩ := by
  have ht : Sz 41 turn := .pos t0 (by omega)
  have h1 : Sz 31 (cell.fmod 2147483629) := Sz.emod (.n (by decide)) (by decide)
  have h2 : CMulW a turn := ha.cmul ht (by omega)
  have h3 : CMulW (a * turn) turn := (ha.mul ht).cmul ht (by omega)
  have h4 := (h1.add ((ha.mul ht).mul ht)).add hk
  have h5 : CMulW (cell.fmod 2147483629 + a * turn * turn + k) 40692 := h4.cmul (l := 31) (.n (by decide)) (by decide)
  have h6 : ∀ i : Int, Sz 31 (i.fmod 2147483647) := fun i => Sz.emod (.n (by decide)) (by decide)
  have h7 : ∀ i : Int, Sz 31 (i.fmod 2147483587) := fun i => Sz.emod (.n (by decide)) (by decide)
  have h8 : CMulW 69621 turn := Sz.cmul (k := 31) (.n (by decide)) ht (by decide)
  simp [wMixA, wSeq, wAsg, wOp, wCB, wCons, wNil, wVar, wC, wRet, svRD, RD.d, RD.bor, fMod, fI, fAdd, fInt, fFdiv, h2, h3, h5]
  refine ⟨(h6 _).cmul (h6 _) (by decide), h8, (h7 _).cmul (l := 31) (.n (by decide)) (by decide), ⟨by decide, by decide⟩, by omega, ?_⟩
  exact q _ (Int.fmod_nonneg_of_pos _ (by omega)) (Int.fmod_lt_of_pos _ (by omega))
theorem draw_le {n : Nat} {m : Int} {Q : D → Nat → Prop} (h1 : 1 ≤ m) (hs : Sz 9000 m) (hn : n < mostDraws) (q : ∀ r : Int, 0 ≤ r → r < m → Q (.int r) (n + 1)) : CdrawA [.deck, .int m] n Q := ⟨m, rfl, h1, hs.log (Nat.le_refl _) (by decide), hn, q⟩
/-- some of a list -/
def CpickA : Con := fun ds n Q => ∃ xs : List D, (ds = [.deck, .lst xs] ∨ ds = [.deck, .tup xs]) ∧ xs ≠ [] ∧ xs.length ≤ 1000 ∧ n < mostDraws ∧ ∀ x ∈ xs, Q x (n + 1)
theorem pick_ints {n : Nat} {xs : List D} {Q : D → Nat → Prop} (P : Int → Prop) (h0 : xs ≠ []) (hl : xs.length ≤ 1000) (hn : n < mostDraws) (hP : ∀ x ∈ xs, ∃ i, x = .int i ∧ P i) (q : ∀ i : Int, P i → Q (.int i) (n + 1)) : CpickA [.deck, .lst xs] n Q :=
  ⟨xs, .inl rfl, h0, hl, hn, fun x hx => by obtain ⟨i, rfl, hi⟩ := hP x hx; exact q i hi⟩
theorem atI_some {α : Type} {xs : List α} {i : Int} (h0 : 0 ≤ i) (h1 : i < xs.length) : ∃ x, x ∈ xs ∧ L2.atI xs i = some x := by
  obtain ⟨j, rfl⟩ := Int.eq_ofNat_of_zero_le h0
  have hi : j < xs.length := by omega
  exact ⟨xs[j], List.getElem_mem _, L2.atI_nat (List.getElem?_eq_getElem hi)⟩
theorem sz_len {n k : Nat} (h : n < 2 ^ k) : Sz k (n : Int) := by unfold Sz; simpa using h
theorem pow_sz {b : Int} {k : Nat} (h : Sz k b) : ∀ e : Nat, Sz (k * e + 1) (b ^ e)
  | 0 => by unfold Sz; simp
  | e + 1 => by
    rw [Int.pow_succ]
    exact ((pow_sz h e).mul h).mono (by rw [Nat.mul_succ]; omega)
end L3
namespace L3
open PySem PySem.Spec PyProof.Rows L2
structure Sh (d : D) (p : PyData) (h l : Nat) : Prop where
  py : d.py = some p
  sw : p.showable = true
  nd : p.hasDict = false
  dp : p.depth ≤ h
  ln : p.shown.length ≤ l
structure ShAll (ds : List D) (ps : List PyData) (h l : Nat) : Prop where
  py : D.pys ds = some ps
  sw : PyData.showableAll ps = true
  nd : PyData.hasDictAll ps = false
  dp : PyData.depthAll ps ≤ h
  ln : ((PyData.shownAll ps).map (·.length)).sum + 2 * (PyData.shownAll ps).length ≤ l
theorem Sh.int {i : Int} (h : Sz 1900 i) : Sh (.int i) (.int i) 0 601 where
  py := py_int i
  sw := decide_eq_true (h.log (l := 1920) (by omega) (by omega))
  nd := rfl
  dp := Nat.le_refl _
  ln := by
    have h2 : i.natAbs < 10 ^ 600 := Nat.lt_of_lt_of_le h (by decide +kernel)
    have e := int_text_length_le10 (k := 600) (by decide) h2
    show (Str.ofString (toString i)).length ≤ 601
    rw [PySem.ofString_length]; exact e
theorem Sh.bl {b : Bool} : Sh (.bl b) (.bool b) 0 5 where
  py := py_bl b
  sw := rfl
  nd := rfl
  dp := Nat.le_refl _
  ln := by cases b <;> decide
theorem Sh.non : Sh .non .none 0 4 where
  py := py_non
  sw := rfl
  nd := rfl
  dp := Nat.le_refl _
  ln := by decide
theorem ShAll.nil {h : Nat} : ShAll [] [] h 0 where
  py := by simp [D.pys]
  sw := rfl
  nd := rfl
  dp := Nat.zero_le _
  ln := Nat.le_refl _
theorem ShAll.cons {d : D} {ds : List D} {p : PyData} {ps : List PyData} {h h' l m : Nat} (a : Sh d p h' l) (b : ShAll ds ps h m) (hh : h' ≤ h) : ShAll (d :: ds) (p :: ps) h (l + 2 + m) where
  py := by simp [D.pys, a.py, b.py]
  sw := by simp [PyData.showableAll, a.sw, b.sw]
  nd := by simp [PyData.hasDictAll, a.nd, b.nd]
  dp := by
    have := a.dp
    have := b.dp
    simp only [PyData.depthAll]
    omega
  ln := by
    have := a.ln
    have := b.ln
    simp only [PyData.shownAll, List.map_cons, List.sum_cons, List.length_cons]
    omega
theorem Sh.lst {ds : List D} {ps : List PyData} {h l : Nat} (a : ShAll ds ps h l) : Sh (.lst ds) (.list ps) (h + 1) (l + 3) where
  py := by simp [D.py, a.py]
  sw := a.sw
  nd := a.nd
  dp := Nat.succ_le_succ a.dp
  ln := by
    have := listText_len_le (PyData.shownAll ps)
    have := a.ln
    simp only [PyData.shown]
    omega
theorem Sh.tup {ds : List D} {ps : List PyData} {h l : Nat} (a : ShAll ds ps h l) : Sh (.tup ds) (.tuple ps) (h + 1) (l + 3) where
  py := by simp [D.py, a.py]
  sw := a.sw
  nd := a.nd
  dp := Nat.succ_le_succ a.dp
  ln := by
    have := tupleText_len_le (PyData.shownAll ps)
    have := a.ln
    simp only [PyData.shown]
    omega
theorem Sh.repr {d : D} {p : PyData} {h l : Nat} {Q : RD → Prop} (a : Sh d p h l) (hh : h ≤ 30) (hl : l ≤ 16777216) (q : Q (.sh (.str p.shown))) : fRepr [d] Q := by
  refine ⟨p, a.py, a.sw, a.nd, Nat.le_trans a.dp hh, Nat.le_trans a.ln hl, q⟩
theorem ShAll.ints : ∀ {ns : List Int}, (∀ n ∈ ns, Sz 1900 n) → ShAll (ns.map D.int) (ns.map PyData.int) 0 (603 * ns.length)
  | [], _ => .nil
  | n :: ns, h => by
    have := ShAll.cons (Sh.int (h n List.mem_cons_self)) (ShAll.ints (ns := ns) fun m hm => h m (List.mem_cons_of_mem _ hm)) (Nat.le_refl _)
    refine ⟨this.py, this.sw, this.nd, this.dp, Nat.le_trans this.ln ?_⟩
    simp only [List.length_cons]
    omega
theorem Sh.mono {d : D} {p : PyData} {h h' l l' : Nat} (a : Sh d p h l) (hh : h ≤ h') (hl : l ≤ l') : Sh d p h' l' := ⟨a.py, a.sw, a.nd, Nat.le_trans a.dp hh, Nat.le_trans a.ln hl⟩
theorem ShAll.mono {d : List D} {p : List PyData} {h h' l l' : Nat} (a : ShAll d p h l) (hh : h ≤ h') (hl : l ≤ l') : ShAll d p h' l' := ⟨a.py, a.sw, a.nd, Nat.le_trans a.dp hh, Nat.le_trans a.ln hl⟩
end L3
namespace L3
open PySem PySem.Spec PyProof.Rows L2
@[simp] theorem flat_int (i : Int) : D.flat (.int i) = true := rfl
@[simp] theorem flat_str (i : Str) : D.flat (.str i) = true := rfl
@[simp] theorem flat_bl (i : Bool) : D.flat (.bl i) = true := rfl
@[simp] theorem flat_non : D.flat .non = true := rfl
@[simp] theorem inD_nil (d : D) : inD d [] = false := rfl
@[simp] theorem inD_int (i j : Int) (ds : List D) : inD (.int i) (.int j :: ds) = (decide (i = j) || inD (.int i) ds) := by
  have e : eqV (V.int j) (V.int i) = decide (i = j) := by
    show (j == i) = decide (i = j)
    rw [Bool.eq_iff_iff, beq_iff_eq, decide_eq_true_eq]
    exact ⟨Eq.symm, Eq.symm⟩
  unfold inD inV
  simp [D.v, e]
@[simp] theorem inD_str (i j : Str) (ds : List D) : inD (.str i) (.str j :: ds) = (decide (i = j) || inD (.str i) ds) := by
  have e : eqV (V.str j) (V.str i) = decide (i = j) := by
    show (j == i) = decide (i = j)
    rw [Bool.eq_iff_iff, beq_iff_eq, decide_eq_true_eq]
    exact ⟨Eq.symm, Eq.symm⟩
  unfold inD inV
  simp [D.v, e]
end L3
namespace L3
open PySem PySem.Spec PyProof.Rows L2
/-- the arguments of a call as they are written -/
structure ArgsOk (X : Cx) (es : List Expr) (kws : List Keyword) (pos : Pos) (ks : List Str) : Prop where
  st : es = [] ∨ ∃ e rest, es = e :: rest ∧ starEach (e :: rest) X.env = (false, eval e X.env) :: starEach rest X.env
  pl : ((backTo pos (starEach es X.env)).any (·.1) || (backToKw pos (keywordEach kws X.env)).any (·.1.isNone)) = false
  al : (backToKw pos (keywordEach kws X.env)).all (·.1.isSome) = true
  nm : (backToKw pos (keywordEach kws X.env)).filterMap (·.1) = ks
section
variable {X : Cx} {CX : CXT} {k n m : Nat} {f C : Addr} {fd : FuncData} {ps ks : List Str} {sp : Sp} {dvs : List V} {ds : List Value} {E : XK} {x mn : Str} {p pos apos : Pos} {e o : Expr} {es : List Expr} {kws : List Keyword} {ta : TE} {t tk : TA} {perm : List Nat}
theorem args_run {fv : Value} {pins : List (Addr × Obj)} {σ : L2.St} {H : Hp} {s : Shared} {B : List V → List V → Hp → Prop} {R : Args → Shared → Prop} (ok : ArgsOk X es kws pos ks) (hn : es = [] → t = tNil) (ha : PA X es t) (hkw : PK X kws tk) (I : Inv X pins σ H s)
    (h : t σ H fun vs H1 => tk σ H1 fun zs H2 => B vs zs H2)
    (go : ∀ us ws vs zs s2 H2, Inv X pins σ H2 s2 → Vals vs us → Vals zs ws → B vs zs H2 → R ⟨us, ks.zip ws⟩ s2) :
    wpAny (model X.prog X.w) X.A (evalArgs fv true (backTo pos (starEach es X.env)) (backToKw pos (keywordEach kws X.env))) R X.xe s := by
  rcases ok.st with rfl | ⟨e, rest, rfl, he⟩
  · rw [hn rfl] at h
    refine evalArgs_kw2_nil ok.al ?_
    rw [ok.nm]
    exact thn (hkw.run pos pins s σ H _ I h) fun ws s2 ⟨zs, H2, I2, rz, b⟩ => go [] ws [] zs s2 H2 I2 .nil rz b
  · refine evalArgs_kw2 ok.al ?_ he
    rw [ok.nm]
    exact thn (ha.run pos pins s σ H _ I h) fun us s1 ⟨vs, H1, I1, r, q⟩ => thn (hkw.run pos pins s1 σ H1 _ I1 q) fun ws s2 ⟨zs, H2, I2, rz, b⟩ => go us ws vs zs s2 H2 I2 r rz b
/-- the callee's node -/
theorem callw {fv : Value} {first : List Value} {pins : List (Addr × Obj)} {σ : L2.St} {H : Hp} {s : Shared} {B : List V → List V → Hp → Prop} {Q : Value → Shared → Prop} (ok : ArgsOk X es kws pos ks) (hn : es = [] → t = tNil) (hk : PySem.W.keepIn X.K fv = true) (ha : PA X es t) (hkw : PK X kws tk) (I : Inv X pins σ H s)
    (h : t σ H fun vs H1 => tk σ H1 fun zs H2 => B vs zs H2)
    (go : ∀ us ws vs zs s2 H2, Inv X pins σ H2 s2 → Vals vs us → Vals zs ws → B vs zs H2 → wpAny (model X.prog X.w) X.A (call fv (first ++ us) (ks.zip ws)) Q X.xe s2) :
    wpAny (model X.prog X.w) X.A (callWith pos fv first (backTo pos (starEach es X.env)) (backToKw pos (keywordEach kws X.env))) Q X.xe s :=
  PySem.W.callWith_of ok.pl (PySem.W.keeps_K hk) (args_run ok hn ha hkw I h fun us ws vs zs s2 H2 I2 r rz b => ⟨I2.kIn, go us ws vs zs s2 H2 I2 r rz b⟩)
/-- the node of a call whose callee is an instance, by what stands behind the arguments -/
theorem inst_node {M : Model} {A : Around} {Er : Value → Shared → Prop} {s : Shared} {a : Addr} {Q : Value → Shared → Prop} {args : List (Bool × Sem Value)} {kw : List (Option Str × Sem Value)} (hp : (args.any (·.1) || kw.any (·.1.isNone)) = false)
    (h : wpAny M A (evalArgs (.ref a) true args kw) (fun z s1 => (∃ C ox od, PySem.W.InstAt s1.heap a ox C od ∧ ox.data = .plain) ∧ wpAny M A (call (.ref a) z.pos z.kw) Q Er s1) Er s) : wpAny M A (callWith pos (.ref a) [] args kw) Q Er s := by
  unfold callWith
  refine wpAny_bind (wpAny_holding (wpAny_mono h (fun z s1 hz => ?_) fun _ _ y => y))
  refine wpAny_bind (wpAny_standAt ?_)
  obtain ⟨⟨C, ox, od, J, hd⟩, hz⟩ := hz
  simp only [hp]
  refine wpAny_bind ((PySem.W.kco_keeper (M := M) J hd).here ?_)
  refine wpAny_bind (wpAny_mono (wpAny_operateT hz) (fun r s2 hr => ?_) fun _ _ y => y)
  exact wpAny_bind (wpAny_holding (wpAny_point (wpAny_pure hr)))
theorem ins_at {pins : List (Addr × Obj)} {σ : L2.St} {H : Hp} {s : Shared} {a dx : Addr} {fs : List (Str × V)} (I : Inv X pins σ H s) (h : H a = some (.ins C dx fs)) : ∃ ox od, PySem.W.InstAt s.heap a ox C od ∧ ox.data = .plain := by
  obtain ⟨mA, O, _⟩ := ins_get I.hok h
  obtain ⟨od, J, _⟩ := O.look
  exact ⟨_, _, J, rfl⟩
theorem calli {a : Addr} {pins : List (Addr × Obj)} {σ : L2.St} {H : Hp} {s : Shared} {B : List V → List V → Hp → Prop} {Q : Value → Shared → Prop} (ok : ArgsOk X es kws pos ks) (hn : es = [] → t = tNil) (ha : PA X es t) (hkw : PK X kws tk) (I : Inv X pins σ H s)
    (h : t σ H fun vs H1 => tk σ H1 fun zs H2 => B vs zs H2)
    (go : ∀ us ws vs zs s2 H2, Inv X pins σ H2 s2 → Vals vs us → Vals zs ws → B vs zs H2 → (∃ C dx fs, H2 a = some (.ins C dx fs)) ∧ wpAny (model X.prog X.w) X.A (call (.ref a) us (ks.zip ws)) Q X.xe s2) :
    wpAny (model X.prog X.w) X.A (callWith pos (.ref a) [] (backTo pos (starEach es X.env)) (backToKw pos (keywordEach kws X.env))) Q X.xe s := by
  refine inst_node ok.pl (args_run ok hn ha hkw I h fun us ws vs zs s2 H2 I2 r rz b => ?_)
  obtain ⟨⟨C, dx, fs, hi⟩, g⟩ := go us ws vs zs s2 H2 I2 r rz b
  obtain ⟨ox, od, J⟩ := ins_at I2 hi
  exact ⟨⟨C, ox, od, J⟩, g⟩
/-- how a method binds: itself, n values, the keywords -/
abbrev KBm (K : PySem.W.Frag) (fd : FuncData) (ps : List Str) (n : Nat) (ks : List Str) (perm : List Nat) (ds : List Value) : Prop := KB K fd ps (n + 1) ks (0 :: perm.map (· + 1)) ds
theorem pick_shift {α : Type} {x : α} {l : List α} {perm : List Nat} : pick (0 :: perm.map (· + 1)) (x :: l) = x :: pick perm l := by
  unfold pick
  rw [List.filterMap_cons_some (f := fun i => (x :: l)[i]?) (a := 0) (b := x) rfl, List.filterMap_map]
  rfl
theorem FnG.callM {pins : List (Addr × Obj)} {σ : L2.St} {H : Hp} {s : Shared} {Q : VK} {a : Value} {va : V} {us ws : List Value} {vs zs : List V} (F : FnG X.prog X.w X.K X.mg X.base CX k f fd ps sp) (hr : Room k X.A) (hg : X.A.guards = some []) (hx : Passes CX X E)
    (I : Inv X pins σ H s) (hb : KBm X.K fd ps n ks perm ds) (hd : Vals dvs ds) (ra : RelV va a) (r : Vals vs us) (rz : Vals zs ws) (l1 : vs.length = n) (l2 : zs.length = ks.length) (h : sp (va :: pick perm (vs ++ zs ++ dvs)) H Q E) :
    codeAny (model X.prog X.w) X.A (.call (.ref f) ⟨a :: us, ks.zip ws⟩) (fun q s' => match q with | .ok (.ret u) => EP X pins σ Q u s' | .ok _ => False | .error e => X.xe e s') s := by
  have rr : Vals (va :: pick perm (vs ++ zs ++ dvs)) (pick (0 :: perm.map (· + 1)) (a :: us ++ ws ++ ds)) := by
    show Vals _ (pick (0 :: perm.map (· + 1)) (a :: (us ++ ws ++ ds)))
    rw [pick_shift]
    exact .cons ra (pick_vals ((r.append rz).append hd))
  exact F.call hr hg hx I (fun _ => hb s (a :: us) ws I.kIn (by rw [List.length_cons, ← r.length, l1]) (by rw [← rz.length, l2])) rr h
def tMakeP (C : Addr) (sp : Sp) (n m : Nat) (perm : List Nat) (dvs : List V) (E : XK) (t tk : TA) : TE := fun σ H Q => t σ H fun vs H1 => tk σ H1 fun zs H2 => vs.length = n ∧ zs.length = m ∧
  ∀ x dx, H2 x = none → H2 dx = none → dx ≠ x → sp (.ref x :: pick perm (vs ++ zs ++ dvs)) (upd (upd H2 dx (.own x)) x (.ins C dx [])) (fun v H3 => v = .non ∧ Q (.ref x) H3) E
theorem make_run {pins : List (Addr × Obj)} {σ : L2.St} {H : Hp} {s : Shared} {Q : VK} {us ws : List Value} {vs zs : List V} (M : Mk X.K C f) (F : FnG X.prog X.w X.K X.mg X.base CX k f fd ps sp) (hr : Room (k + 1) X.A) (hg : X.A.guards = some []) (hb : KBm X.K fd ps n ks perm ds) (hd : Vals dvs ds)
    (hx : Passes CX X E) (I : Inv X pins σ H s) (r : Vals vs us) (rz : Vals zs ws) (l1 : vs.length = n) (l2 : zs.length = ks.length)
    (h : ∀ x dx, H x = none → H dx = none → dx ≠ x → sp (.ref x :: pick perm (vs ++ zs ++ dvs)) (upd (upd H dx (.own x)) x (.ins C dx [])) (fun v H3 => v = .non ∧ Q (.ref x) H3) E) :
    wpAny (model X.prog X.w) X.A (call (.ref C) us (ks.zip ws)) (EP X pins σ Q) X.xe s := by
  have I2 := Inv.made (C := C) I
  have q := h (s.heap.objs.size + 1) s.heap.objs.size (I.hok.fresh (Nat.le_succ _)) (I.hok.fresh (Nat.le_refl _)) (Nat.ne_of_lt (Nat.lt_succ_self _))
  have rr : Vals (V.ref (s.heap.objs.size + 1) :: pick perm (vs ++ zs ++ dvs)) (pick (0 :: perm.map (· + 1)) (Value.ref (s.heap.objs.size + 1) :: us ++ ws ++ ds)) := by
    show Vals _ (pick (0 :: perm.map (· + 1)) (Value.ref (s.heap.objs.size + 1) :: (us ++ ws ++ ds)))
    rw [pick_shift]
    exact .cons rfl (pick_vals ((r.append rz).append hd))
  have bt := hb _ (Value.ref (s.heap.objs.size + 1) :: us) ws I2.kIn (by rw [List.length_cons, ← r.length, l1]) (by rw [← rz.length, l2])
  refine wpAny_call (make_map (f := f) I.kIn M.makes M.init (beq_iff_eq.mp M.fn) (codeAny_mono (F.go _ X.stack _ _ ⟨_, ks.zip ws⟩ _ _ _ E ⟨hr.make C us (ks.zip ws), hg⟩ (I2.env0.make C us (ks.zip ws)) bt rr q) fun z s' hz => ?_))
  cases z with
  | error e => exact hx pins σ _ _ e s' I2 hz
  | ok fl => cases fl with
    | ret u =>
      obtain ⟨v, H', I3, rv, ev, q3⟩ := I2.after hz
      subst ev
      exact ⟨rv, .ref (s.heap.objs.size + 1), H', I3, rfl, q3⟩
    | next => exact hz.elim
    | brk => exact hz.elim
    | cont => exact hz.elim
theorem pg_make (M : Mk X.K C f) (F : FnG X.prog X.w X.K X.mg X.base CX k f fd ps sp) (hr : Room (k + 1) X.A) (hg : X.A.guards = some []) (gl : Gl X x) (hm : X.mg x = some (.ref C)) (hb : KBm X.K fd ps n ks perm ds) (hd : Vals dvs ds) (hx : Passes CX X E)
    (ok : ArgsOk X es kws pos ks) (hn : es = [] → t = tNil) (ha : PA X es t) (hkw : PK X kws tk) (hdb : (x == ("__debug__" : Str)) = false) : PE X (.Call (.Name x p) es kws pos) (tMakeP C sp n ks.length perm dvs E t tk) :=
  ⟨fun pins s σ H Q I h => wpAny_Call_Name_kw (ld_glob I gl hm (callw ok hn M.kp ha hkw I h fun us ws vs zs s2 H2 I2 r rz ⟨l1, l2, q⟩ => make_run M F hr hg hb hd hx I2 r rz l1 l2 q) hdb)⟩
def tMethP (C : Addr) (mn : Str) (sp : Sp) (n m : Nat) (perm : List Nat) (dvs : List V) (E : XK) (ta : TE) (t tk : TA) : TE := fun σ H Q => ta σ H fun x H1 => ∃ a dx fs, x = .ref a ∧ H1 a = some (.ins C dx fs) ∧ fs.lookup mn = none ∧
  t σ H1 fun vs H2 => tk σ H2 fun zs H3 => vs.length = n ∧ zs.length = m ∧ sp (x :: pick perm (vs ++ zs ++ dvs)) H3 Q E
theorem pg_meth {pl : Sem Bool} (he : PE X o ta) (c : Cls X.K C) (hm : Meth X.K C mn f) (F : FnG X.prog X.w X.K X.mg X.base CX k f fd ps sp) (hr : Room k X.A) (hg : X.A.guards = some []) (hb : KBm X.K fd ps n ks perm ds) (hd : Vals dvs ds) (hx : Passes CX X E)
    (ok : ArgsOk X es kws pos ks) (hn : es = [] → t = tNil) (ha : PA X es t) (hkw : PK X kws tk)
    (ht : eval (.Call (.Attribute o mn apos) es kws pos) X.env = (do
      let ov ← eval o X.env
      standAt apos.atName
      let (f, first) ← holding [ov] (getMethod ov mn pl)
      callWith pos f first (backTo pos (starEach es X.env)) (backToKw pos (keywordEach kws X.env)))) :
    PE X (.Call (.Attribute o mn apos) es kws pos) (tMethP C mn sp n ks.length perm dvs E ta t tk) := by
  refine ⟨fun pins s σ H Q I h => PySem.W.methodCall_KW (pl := pl) (thn (he.run pins s σ H _ I h) fun u s1 ⟨x, H1, I1, rx, a, dx, fs, ex, ea, l, q⟩ => ?_) ht⟩
  subst ex
  obtain rfl : u = Value.ref a := rx
  refine getmeth_ok I1 ea c hm l (callw (first := [.ref a]) ok hn hm.kp ha hkw I1 q fun us ws vs zs s2 H2 I2 r rz ⟨l1, l2, q2⟩ => ?_)
  exact wp_of_code (α := Unit) (FnG.callM (va := .ref a) F hr hg hx I2 hb hd rfl r rz l1 l2 q2)
structure CallI (K : PySem.W.Frag) (C g : Addr) : Prop where
  at_ : PySem.W.findIn K (.ref C) "__call__" = some (some (.ref g))
  fn : PySem.W.isFn K (.ref g) = true
  fi : PySem.W.fnIn K g = true
theorem run_inst {pins : List (Addr × Obj)} {σ : L2.St} {H : Hp} {s : Shared} {Q : VK} {a dx : Addr} {fs : List (Str × V)} {us ws : List Value} {vs zs : List V} (c : CallI X.K C f) (F : FnG X.prog X.w X.K X.mg X.base CX k f fd ps sp) (hr : Room k X.A) (hg : X.A.guards = some []) (hx : Passes CX X E)
    (I : Inv X pins σ H s) (hi : H a = some (.ins C dx fs)) (hb : KBm X.K fd ps n ks perm ds) (hd : Vals dvs ds) (r : Vals vs us) (rz : Vals zs ws) (l1 : vs.length = n) (l2 : zs.length = ks.length) (h : sp (.ref a :: pick perm (vs ++ zs ++ dvs)) H Q E) :
    wpAny (model X.prog X.w) X.A (call (.ref a) us (ks.zip ws)) (EP X pins σ Q) X.xe s := by
  obtain ⟨ox, od, J, d⟩ := ins_at I hi
  exact wp_of_code (α := Unit) (PySem.W.kco_code I.kIn J d c.at_ c.fn c.fi (FnG.callM (va := .ref a) F hr hg hx I hb hd rfl r rz l1 l2 h))
def tInst (C : Addr) (sp : Sp) (n m : Nat) (perm : List Nat) (dvs : List V) (E : XK) (ta : TE) (t tk : TA) : TE := fun σ H Q => ta σ H fun x H1 => ∃ a, x = .ref a ∧
  t σ H1 fun vs H2 => tk σ H2 fun zs H3 => vs.length = n ∧ zs.length = m ∧ (∃ dx fs, H3 a = some (.ins C dx fs)) ∧ sp (x :: pick perm (vs ++ zs ++ dvs)) H3 Q E
theorem pg_inst {fe : Expr} (he : PE X fe ta) (c : CallI X.K C f) (F : FnG X.prog X.w X.K X.mg X.base CX k f fd ps sp) (hr : Room k X.A) (hg : X.A.guards = some []) (hb : KBm X.K fd ps n ks perm ds) (hd : Vals dvs ds) (hx : Passes CX X E)
    (ok : ArgsOk X es kws pos ks) (hn : es = [] → t = tNil) (ha : PA X es t) (hkw : PK X kws tk)
    (ht : eval (.Call fe es kws pos) X.env = (do callWith pos (← eval fe X.env) [] (backTo pos (starEach es X.env)) (backToKw pos (keywordEach kws X.env)))) :
    PE X (.Call fe es kws pos) (tInst C sp n ks.length perm dvs E ta t tk) := by
  refine ⟨fun pins s σ H Q I h => ?_⟩
  rw [ht]
  refine wpAny_bind (thn (he.run pins s σ H _ I h) fun u s1 ⟨x, H1, I1, rx, a, ex, q⟩ => ?_)
  subst ex
  obtain rfl : u = Value.ref a := rx
  refine calli ok hn ha hkw I1 q fun us ws vs zs s2 H2 I2 r rz ⟨l1, l2, ⟨dx, fs, hi⟩, q2⟩ => ⟨⟨C, dx, fs, hi⟩, run_inst c F hr hg hx I2 hi hb hd r rz l1 l2 q2⟩
/-- o.f(..) where f is a field that holds an instance -/
def tFInst (K : PySem.W.Frag) (fn : Str) (C : Addr) (sp : Sp) (n m : Nat) (perm : List Nat) (dvs : List V) (E : XK) (ta : TE) (t tk : TA) : TE := fun σ H Q => ta σ H fun x H1 => ∃ a D dx fs b, x = .ref a ∧ H1 a = some (.ins D dx fs) ∧ Cls K D ∧ NoAttr K D fn ∧ fs.lookup fn = some (.ref b) ∧
  t σ H1 fun vs H2 => tk σ H2 fun zs H3 => vs.length = n ∧ zs.length = m ∧ (∃ dx fs, H3 b = some (.ins C dx fs)) ∧ sp (.ref b :: pick perm (vs ++ zs ++ dvs)) H3 Q E
end
end L3
namespace L3
open PySem PySem.Spec PyProof.Rows L2
theorem RepAll.cons {K : PySem.W.Frag} {G : Gx} {H : Hp} {x : V} {xs : List V} {d : D} {ds : List D} (h : Rep K G H x d) (t : RepAll K G H xs ds) : RepAll K G H (x :: xs) (d :: ds) := ⟨x, xs, rfl, h, t⟩
theorem lookup_zip {f : Str} : ∀ {fl : List Str} {i : Nat} (xs : List V), fl.findIdx? (· == f) = some i → (fl.zip xs).lookup f = xs[i]?
  | [], _, _, h => by simp at h
  | g :: fl, i, [], h => by simp
  | g :: fl, i, x :: xs, h => by
    rw [List.findIdx?_cons] at h
    by_cases e : (g == f) = true
    · rw [if_pos e] at h
      cases h
      have e : g = f := beq_iff_eq.mp e
      subst e
      simp [List.zip_cons_cons]
    · rw [if_neg e] at h
      obtain ⟨j, h1, rfl⟩ := Option.map_eq_some_iff.mp h
      have e' : (f == g) = false := by
        rw [Bool.eq_false_iff]
        exact fun z => e (beq_iff_eq.mpr (beq_iff_eq.mp z).symm)
      rw [List.zip_cons_cons, List.lookup_cons, e', lookup_zip xs h1]
      simp
theorem putF_zip {f : Str} {y : V} : ∀ {fl : List Str} {i : Nat} {xs : List V}, fl.findIdx? (· == f) = some i → i ≤ xs.length → putF f y (fl.zip xs) = fl.zip (xs.take i ++ y :: xs.drop (i + 1))
  | [], _, _, h, _ => by simp at h
  | g :: fl, i, [], h, hl => by
    have : i = 0 := by simpa using hl
    subst this
    rw [List.findIdx?_cons] at h
    by_cases e : (g == f) = true
    · have e : g = f := beq_iff_eq.mp e
      subst e
      simp [putF]
    · rw [if_neg e] at h
      obtain ⟨j, h1, h2⟩ := Option.map_eq_some_iff.mp h
      omega
  | g :: fl, i, x :: xs, h, hl => by
    rw [List.findIdx?_cons] at h
    by_cases e : (g == f) = true
    · rw [if_pos e] at h
      cases h
      have e : g = f := beq_iff_eq.mp e
      subst e
      simp [putF]
    · rw [if_neg e] at h
      obtain ⟨j, h1, rfl⟩ := Option.map_eq_some_iff.mp h
      have e' : ¬ g = f := fun z => e (beq_iff_eq.mpr z)
      rw [List.zip_cons_cons]
      show (if g = f then _ else (g, x) :: putF f y (fl.zip xs)) = _
      rw [if_neg e', putF_zip h1 (by simpa using hl)]
      simp
/-- where the field f stands, class by class -/
structure FldOk (K : PySem.W.Frag) (G : Gx) (f : Str) (tab : List (Nat × Nat)) : Prop where
  ix : ∀ t i, tab.lookup t = some i → (G.fld t).findIdx? (· == f) = some i ∧ (G.fld t).length < 1000
  cl : ∀ t i, tab.lookup t = some i → Cls K (G.cls t) ∧ NoAttr K (G.cls t) f
theorem FldOk.nil {K : PySem.W.Frag} {G : Gx} {f : Str} : FldOk K G f [] := ⟨fun _ _ h => by simp at h, fun _ _ h => by simp at h⟩
theorem FldOk.cons {K : PySem.W.Frag} {G : Gx} {f : Str} {tab : List (Nat × Nat)} {t i : Nat} (h1 : (G.fld t).findIdx? (· == f) = some i) (h2 : (G.fld t).length < 1000) (c : Cls K (G.cls t)) (n : NoAttr K (G.cls t) f) (r : FldOk K G f tab) : FldOk K G f ((t, i) :: tab) := by
  have key : ∀ u j, ((t, i) :: tab).lookup u = some j → (u = t ∧ j = i) ∨ tab.lookup u = some j := fun u j h => by
    rw [List.lookup_cons] at h
    by_cases e : (u == t) = true
    · rw [e] at h
      exact .inl ⟨beq_iff_eq.mp e, (Option.some.inj h).symm⟩
    · rw [Bool.eq_false_iff.mpr e] at h
      exact .inr h
  refine ⟨fun u j h => ?_, fun u j h => ?_⟩
  · rcases key u j h with ⟨rfl, rfl⟩ | h
    · exact ⟨h1, h2⟩
    · exact r.ix u j h
  · rcases key u j h with ⟨rfl, rfl⟩ | h
    · exact ⟨c, n⟩
    · exact r.cl u j h
def fFld (tab : List (Nat × Nat)) : F1
  | .ins t ds, Q => ∃ i x, tab.lookup t = some i ∧ ds[i]? = some x ∧ Q (.sh x)
  | _, _ => False
@[simp] theorem fFld_0 (tab : List (Nat × Nat)) (t : Nat) (ds : List D) (Q : RD → Prop) : fFld tab (.ins t ds) Q = (∃ i x, tab.lookup t = some i ∧ ds[i]? = some x ∧ Q (.sh x)) := rfl
@[simp] def wSetF (i : Nat) (tab : List (Nat × Nat)) (w : WE) : WS := fun De δ => w δ fun r δ1 => ¬ r.bor ∧ ∃ t fs k, δ1.sl[i]? = some (some (.ow (.ins t fs))) ∧ tab.lookup t = some k ∧ k ≤ fs.length ∧
  De.nx ⟨δ1.sl.set i (some (.ow (.ins t (fs.take k ++ r.d :: fs.drop (k + 1))))), δ1.n⟩
section
variable {X : Cx} {G : Gx} {K : PySem.W.Frag} {E : Ent} {f : Str} {tab : List (Nat × Nat)} {o e : Expr} {ta te : TE} {wa we : WE} {pos pos' : Pos}
theorem RB.ins {M : List Addr} {H : Hp} {v : V} {t : Nat} {ds : List D} (h : RB K G M H v (.ins t ds)) : ∃ p dx xs, v = .ref p ∧ H p = some (.ins (G.cls t) dx ((G.fld t).zip xs)) ∧ xs.length ≤ (G.fld t).length ∧ RepAll K G (mask M H) xs ds := by
  rcases h with ⟨p, dx, xs, e, q, l, r⟩ | ⟨p, e, dx, xs, q, l, r⟩
  · exact ⟨p, dx, xs, e, mask_le _ _ q, l, r⟩
  · exact ⟨p, dx, xs, e, q, l, r⟩
theorem uns_fld (ok : FldOk K G f tab) : UnS K G (fun x H1 Q => ∃ a C dx fs v, x = .ref a ∧ H1 a = some (.ins C dx fs) ∧ Cls K C ∧ NoAttr K C f ∧ fs.lookup f = some v ∧ Q v H1) (fFld tab) := fun M H x d al bx Qd h Q k => by
  cases d <;> first | exact h.elim | skip
  obtain ⟨i, y, h1, h2, q⟩ := h
  obtain ⟨p, dx, xs, rfl, hp, hl, r⟩ := bx.ins
  obtain ⟨v, hv, rv⟩ := r.get h2
  exact ⟨p, _, dx, _, v, rfl, hp, (ok.cl _ _ h1).1, (ok.cl _ _ h1).2, by rw [lookup_zip xs (ok.ix _ _ h1).1]; exact hv, k v (.sh y) H (Same.refl _) (rn_sh rv) q⟩
theorem de_fld (K : PySem.W.Frag) (ok : FldOk K G f tab) (he : DE X G o ta wa) (hb : attributeBase o f X.env (eval o X.env) = eval o X.env := by rfl) (hK : X.K = K := by rfl) : DE X G (.Attribute o f pos) (tFld K ta f) (wUn (fFld tab) wa) := by
  subst hK
  exact ⟨pe_fld he.pe hb, fun E => sim_un (uns_fld ok) (he.sim E)⟩
theorem sim_setF {i : Nat} (ok : FldOk K G f tab) (h : ∀ E, SimE K G E te we) : SimS K G (sFld K (tVar i) te f) (wSetF i tab we) := fun E am M σ δ H S D3 q De R => by
  refine h E am M σ δ H S _ q _ fun y r δ1 H1 S1 e1 o1 rv ⟨nb, t, fs, k, h0, h1, hk, q⟩ => ?_
  obtain ⟨a1, a2, a3, a4, dx, xs, a5, a6, a7⟩ := S1.ow i _ h0
  obtain ⟨f1, f2⟩ := ok.ix _ _ h1
  have hk' : k ≤ xs.length := by rw [a7.length]; exact hk
  have kl : k < (G.fld t).length := by
    have := List.findIdx?_eq_some_iff_findIdx_eq.mp f1
    exact this.1
  refine ⟨_, a1, am i, _, dx, _, rfl, a5, (ok.cl _ _ h1).1, (ok.cl _ _ h1).2, ?_, R.nx am M _ _ _ (S1.mut (d' := .ins t (fs.take k ++ r.d :: fs.drop (k + 1))) h0 ⟨dx, xs.take k ++ y :: xs.drop (k + 1), ?_, ?_, ?_⟩ rfl) q⟩
  · rw [List.length_zip]; omega
  · rw [upd_same, putF_zip f1 hk']
  · rw [List.length_append, List.length_cons, List.length_take, List.length_drop]; omega
  · rw [mask_upd a2]
    exact (a7.take k).append ⟨y, _, rfl, rv.k.rep nb, a7.drop (k + 1)⟩
theorem ds_fld (i : Nat) (K : PySem.W.Frag) (ok : FldOk K G f tab) (hx : PE X o (tVar i)) (he : DE X G e te we) (hs : swapsWith e (some (.Attribute o f pos')) pos.line X.env = pure false := by rfl) (hK : X.K = K := by rfl) :
    DS X G (.Assign [.Attribute o f pos'] e pos) (sFld K (tVar i) te f) (wSetF i tab we) := by
  subst hK
  exact ⟨ps_fld hx he.pe hs, sim_setF ok he.sim⟩
end
def liftI (K : PySem.W.Frag) (Gf : Addr → Addr → Gx) (t : Nat) (C : Con) : Sp := fun vs H Q _ => ∃ (a c : Addr) (ads : List Addr) (ds : List D) (n : Nat) (Qd : D → Nat → Prop) (x dx : Addr) (us : List V), vs = .ref x :: us ∧
  (∀ y ∈ (Gf a c).dk, y ∈ ads) ∧ (∀ y ∈ ads, H y ≠ none) ∧ x ∉ ads ∧ H x = some (.ins ((Gf a c).cls t) dx []) ∧ (Gf a c).DI n H ∧ RepAll K (Gf a c) (mask (x :: ads) H) us ds ∧ C ds n Qd ∧
  ∀ (d : D) (n' : Nat) (H' : Hp), (∀ b o, H b = some o → b ∉ (Gf a c).dk → b ≠ x → H' b = some o) → (Gf a c).DI n' H' → Rep K (Gf a c) (mask ads H') (.ref x) d → Qd d n' → Q .non H'
def startI (N : List Str) (t : Nat) (ds : List D) : List (Option SV) := some (.ow (.ins t [])) :: (ds.map (fun d => some (.sh d)) ++ List.replicate (N.length - (ds.length + 1)) none)
theorem tail_get {ds : List D} {n i : Nat} {s : SV} (h : (ds.map (fun d => some (SV.sh d)) ++ List.replicate n none)[i]? = some (some s)) : ∃ d, s = .sh d ∧ ds[i]? = some d := by
  by_cases q : i < ds.length
  · rw [List.getElem?_append_left (by simpa using q), List.getElem?_map] at h
    cases e : ds[i]? with
    | none => rw [e] at h; cases h
    | some d =>
      rw [e] at h
      exact ⟨d, by simpa using h.symm, rfl⟩
  · rw [List.getElem?_append_right (by simpa using q), List.getElem?_replicate] at h
    split at h <;> cases h
section
variable {P : Program} {w : World} {K : PySem.W.Frag} {mg : Str → Option Value} {base : Heap} {k : Nat} {f : Addr} {fd : FuncData} {ps N : List Str} {x qual : Str} {params : Arguments} {body : List Stmt} {scope : Scope} {Gf : Addr → Addr → Gx} {C : Con} {ws : WS} {t : Nat}
theorem init_sr {G : Gx} {H : Hp} {ads : List Addr} {n : Nat} {x dx : Addr} {us : List V} {ds : List D} (hk : ∀ y ∈ G.dk, y ∈ ads) (ha : ∀ y ∈ ads, H y ≠ none) (hx : x ∉ ads) (hi : H x = some (.ins (G.cls t) dx [])) (di : G.DI n H) (r : RepAll K G (mask (x :: ads) H) us ds) :
    SR K G ⟨fun b => if b = x then none else H b, ads, [], some x⟩ (fun _ => x) (x :: ads) (L2.start N (.ref x :: us)) ⟨startI N t ds, n⟩ H where
  len := by unfold L2.start startI; simp [r.length]
  sh := fun i d h => by
    cases i with
    | zero => cases h
    | succ i =>
      obtain ⟨d', e1, e2⟩ := tail_get (h : (ds.map (fun d => some (SV.sh d)) ++ List.replicate (N.length - (ds.length + 1)) none)[i]? = _)
      cases e1
      obtain ⟨v, h1, h2⟩ := r.get e2
      refine ⟨v, ?_, h2⟩
      have il : i < us.length := (List.getElem?_eq_some_iff.mp h1).1
      unfold L2.start
      rw [List.getElem?_append_left (by simp; omega), List.getElem?_map, List.getElem?_cons_succ, h1]
      rfl
  ow := fun i d h => by
    cases i with
    | zero =>
      cases h
      exact ⟨rfl, List.mem_cons_self, hx, if_pos rfl, dx, [], by simpa using hi, Nat.zero_le _, rfl⟩
    | succ i =>
      obtain ⟨d', e1, e2⟩ := tail_get (h : (ds.map (fun d => some (SV.sh d)) ++ List.replicate (N.length - (ds.length + 1)) none)[i]? = _)
      cases e1
  inj := fun i j ⟨d, h⟩ ⟨d', h'⟩ _ => by
    have z : ∀ (i : Nat) (d : D), (startI N t ds)[i]? = some (some (SV.ow d)) → i = 0 := fun i d h => by
      cases i with
      | zero => rfl
      | succ i =>
        obtain ⟨d', e1, e2⟩ := tail_get (h : (ds.map (fun d => some (SV.sh d)) ++ List.replicate (N.length - (ds.length + 1)) none)[i]? = _)
        cases e1
    rw [z i d h, z j d' h']
  ads := fun a z => List.mem_cons_of_mem _ z
  dks := hk
  al := fun a z => by
    rcases List.mem_cons.mp z with e | e
    · subst e; rw [hi]; simp
    · exact ha a e
  base := fun b o h _ => by
    have h : (if b = x then none else H b) = some o := h
    by_cases e : b = x
    · rw [if_pos e] at h; cases h
    · rw [if_neg e] at h; exact h
  di := di
  gh := fun p hp => by cases hp
  slf := fun y hy d h k => by cases hy; rfl
theorem FnG.init (t : Nat) (F : FunB K x qual params body scope f fd) (S : FnScope N ps scope) (len : ∀ ds n Q, C ds n Q → ds.length + 1 = ps.length)
    (hb : ∀ (cdv : Value) (A : Around) (outer : List Env) (s : Shared) (H : Hp) (E : XK) (a c : Addr), Room k (A.deeper (envOfC qual scope s.heap.objs.size f cdv)) → A.guards = some [] →
      ∃ t, DSs (cxOf CX0 P w K mg base N qual scope f cdv A outer s H E).nox (Gf a c) body t ws)
    (hw : ∀ ds n Q, C ds n Q → ws ⟨fun δ => ∃ fs, δ.sl[0]? = some (some (.ow (.ins t fs))) ∧ Q (.ins t fs) δ.n, fun _ _ => False, fun _ => False, fun _ => False⟩ ⟨startI N t ds, n⟩) : FnG P w K mg base CX0 (k + 1) f fd ps (liftI K Gf t C) := by
  refine FnG.of F S (fun vs H Q E ⟨a, c, ads, ds, n, Qd, x, dx, us, e, _, _, _, _, _, r, hc, _⟩ => by rw [e, List.length_cons, r.length]; exact len ds n Qd hc) fun cdv A outer s H vs Q E hr hg ⟨a, c, ads, ds, n, Qd, x, dx, us, e, hk, ha, hx, hi, di, r, hc, q⟩ => ?_
  subst e
  obtain ⟨tt, ht⟩ := hb cdv A outer s H E a c hr hg
  refine ⟨tt, ht.ps.nox, ht.sim ⟨fun b => if b = x then none else H b, ads, [], some x⟩ _ _ _ _ H (init_sr hk ha hx hi di r) _ (hw ds n Qd hc) _ ⟨fun am M σ δ H' S' ⟨fs, h0, z⟩ => ?_, fun _ _ _ _ _ _ z => z, fun _ _ _ _ _ _ z => z, fun v d n' H' rv hbase di' z => z.elim⟩⟩
  obtain ⟨_, _, a3, _, own⟩ := S'.ow 0 _ h0
  have e0 : am 0 = x := S'.slf x rfl _ h0 rfl
  rw [e0] at own a3
  refine q (.ins t fs) δ.n H' (fun b o h hd ne => S'.base b o (by show (if b = x then none else H b) = some o; rw [if_neg ne]; exact h) hd) S'.di (own.rep (mask_sub S'.ads) fun o e => by rw [mask_out a3]; exact e) z
end
@[simp] def wMeth (t : Nat) (C : Con) (n m : Nat) (perm : List Nat) (dd : List D) (wo : WE) (w wk : WA) : WE := fun δ Q => wo δ fun r δ0 => ¬ r.bor ∧ (∃ fs, r.d = .ins t fs) ∧ w δ0 fun rs δ1 => wk δ1 fun qs δ2 => keeps rs ∧ keeps qs ∧ rs.length = n ∧ qs.length = m ∧
  C (r.d :: pick perm (rs.map RD.d ++ qs.map RD.d ++ dd)) δ2.n fun d n' => Q (.sh d) ⟨δ2.sl, n'⟩
section
variable {X : Cx} {G : Gx} {K : PySem.W.Frag} {E : Ent} {Gf : Addr → Addr → Gx} {a c : Addr} {C : Con} {dd : List D} {dvs : List V} {to : TE} {wo : WE} {ts tk : TA} {wa wk : WA} {n m t : Nat} {perm : List Nat}
theorem sim_make {Ex : XK} (h : SimA K (Gf a c) E ts wa) (h' : SimA K (Gf a c) E tk wk) (hd : Dfl K (Gf a c) dvs dd) : SimE K (Gf a c) E (tMakeP ((Gf a c).cls t) (liftI K Gf t C) n m perm dvs Ex ts tk) (wCallP C n m perm dd wa wk) := fun am M σ δ H S Qd q Q k =>
  h am M σ δ H S _ q _ fun vs rs δ1 H1 S1 e1 o1 r1 q => h' am M σ δ1 H1 S1 _ q _ fun zs qs δ2 H2 S2 e2 o2 r2 ⟨k1, k2, l1, l2, hc⟩ => by
    refine ⟨by rw [r1.length]; exact l1, by rw [r2.length]; exact l2, fun x dx hx hdx ne => ?_⟩
    have hx' : (upd H2 dx (.own x)) x = none := by rw [upd_ne ne.symm]; exact hx
    have sm : Same H2 (upd (upd H2 dx (.own x)) x (.ins ((Gf a c).cls t) dx [])) := (same_new hdx).trans (same_new hx')
    have S3 := S2.grow sm
    have xM : x ∉ M := fun z => S2.al x z hx
    have rep := pick_rep (perm := perm) ((((r1.later (δ2 := δ2) S1 e2 k1).rep k1).append (r2.rep k2)).append (hd _))
    refine ⟨a, c, M, _, δ2.n, _, x, dx, _, rfl, fun y hy => S3.ads y (S3.dks y hy), S3.al, xM, upd_same, S3.di, rep.mono (mask_new hx sm), hc, fun d n' H' hb di rv hq => ⟨rfl, ?_⟩⟩
    have hb' : ∀ b o, H2 b = some o → b ∉ (Gf a c).dk → H' b = some o := fun b o h hk => hb b o (sm b o h) hk fun z => by subst z; rw [hx] at h; cases h
    exact k (.ref x) (.sh d) ⟨δ2.sl, n'⟩ H' (S2.after hb' di) ((e1.trans o1 e2).trans (fun i z => o1 i (o2 i z)) fun b o h hk _ => hb' b o h hk) (fun i z => o1 i (o2 i z)) rv hq
theorem zip_none {mn : Str} : ∀ {fl : List Str} (xs : List V), mn ∉ fl → (fl.zip xs).lookup mn = none
  | [], _, _ => by simp
  | g :: fl, [], _ => by simp
  | g :: fl, x :: xs, h => by
    have h1 : (mn == g) = false := by
      rw [Bool.eq_false_iff]
      exact fun z => h (by rw [beq_iff_eq.mp z]; exact List.mem_cons_self)
    rw [List.zip_cons_cons, List.lookup_cons, h1]
    exact zip_none xs fun z => h (List.mem_cons_of_mem _ z)
theorem sim_meth {Ex : XK} {mn : Str} (hmn : mn ∉ (Gf a c).fld t) (ho : SimE K (Gf a c) E to wo) (h : SimA K (Gf a c) E ts wa) (h' : SimA K (Gf a c) E tk wk) (hd : Dfl K (Gf a c) dvs dd) :
    SimE K (Gf a c) E (tMethP ((Gf a c).cls t) mn (lift K Gf C) n m perm dvs Ex to ts tk) (wMeth t C n m perm dd wo wa wk) := fun am M σ δ H S Qd q Q k =>
  ho am M σ δ H S _ q _ fun x r δ0 H0 S0 e0 o0 r0 ⟨nb, ⟨fs, ef⟩, q⟩ => by
    have rr := r0.k.rep nb
    have ri := rr
    rw [ef] at ri
    obtain ⟨p, dx, xs, rfl, hp, hl, rx⟩ := ri
    refine ⟨p, dx, _, rfl, mask_le _ _ hp, zip_none xs hmn, ?_⟩
    refine h am M σ δ0 H0 S0 _ q _ fun vs rs δ1 H1 S1 e1 o1 r1 q => h' am M σ δ1 H1 S1 _ q _ fun zs qs δ2 H2 S2 e2 o2 r2 ⟨k1, k2, l1, l2, hc⟩ => ?_
    refine ⟨by rw [r1.length]; exact l1, by rw [r2.length]; exact l2, ?_⟩
    have rep := pick_rep (perm := perm) ((((r1.later (δ2 := δ2) S1 e2 k1).rep k1).append (r2.rep k2)).append (hd _))
    have r0' : Rep K (Gf a c) (mask M H2) (.ref p) r.d := Rep.mono ((S0.mask e1).trans (S1.mask e2)) _ rr
    exact lift_use S2 (RepAll.cons r0' rep) hc fun v r δ' H' S' e' o' rv hq =>
      k v r δ' H' S' (((e0.trans o0 e1).trans (fun i z => o0 i (o1 i z)) e2).trans (fun i z => o0 i (o1 i (o2 i z))) e') (fun i z => o0 i (o1 i (o2 i (o' i z)))) rv hq
theorem sim_inst {Ex : XK} (ho : SimE K (Gf a c) E to wo) (h : SimA K (Gf a c) E ts wa) (h' : SimA K (Gf a c) E tk wk) (hd : Dfl K (Gf a c) dvs dd) :
    SimE K (Gf a c) E (tInst ((Gf a c).cls t) (lift K Gf C) n m perm dvs Ex to ts tk) (wMeth t C n m perm dd wo wa wk) := fun am M σ δ H S Qd q Q k =>
  ho am M σ δ H S _ q _ fun x r δ0 H0 S0 e0 o0 r0 ⟨nb, ⟨fs, ef⟩, q⟩ => by
    have rr := r0.k.rep nb
    have ri := rr
    rw [ef] at ri
    obtain ⟨p, dx, xs, rfl, hp, hl, rx⟩ := ri
    refine ⟨p, rfl, ?_⟩
    refine h am M σ δ0 H0 S0 _ q _ fun vs rs δ1 H1 S1 e1 o1 r1 q => h' am M σ δ1 H1 S1 _ q _ fun zs qs δ2 H2 S2 e2 o2 r2 ⟨k1, k2, l1, l2, hc⟩ => ?_
    have rep := pick_rep (perm := perm) ((((r1.later (δ2 := δ2) S1 e2 k1).rep k1).append (r2.rep k2)).append (hd _))
    have r0' : Rep K (Gf a c) (mask M H2) (.ref p) r.d := Rep.mono ((S0.mask e1).trans (S1.mask e2)) _ rr
    have ri' := r0'
    rw [ef] at ri'
    obtain ⟨p', dx', xs', e', hp', _⟩ := ri'
    cases e'
    refine ⟨by rw [r1.length]; exact l1, by rw [r2.length]; exact l2, ⟨dx', _, mask_le _ _ hp'⟩, ?_⟩
    exact lift_use S2 (RepAll.cons r0' rep) hc fun v r δ' H' S' e' o' rv hq =>
      k v r δ' H' S' (((e0.trans o0 e1).trans (fun i z => o0 i (o1 i z)) e2).trans (fun i z => o0 i (o1 i (o2 i z))) e') (fun i z => o0 i (o1 i (o2 i (o' i z)))) rv hq
variable {k : Nat} {f : Addr} {fd : FuncData} {ps ks : List Str} {ds : List Value} {x mn : Str} {p pos apos : Pos} {o : Expr} {es : List Expr} {kws : List Keyword}
theorem de_make (K : PySem.W.Frag) (t : Nat) (M : Mk K ((Gf a c).cls t) f) (F : FnG X.prog X.w K X.mg X.base CX0 k f fd ps (liftI K Gf t C)) (hr : Room (k + 1) X.A) (hg : X.A.guards = some []) (hm : X.mg x = some (.ref ((Gf a c).cls t))) (hb : KBm K fd ps n ks perm ds) (hv : Vals dvs ds) (hd : Dfl K (Gf a c) dvs dd)
    (ha : DA X (Gf a c) es ts wa) (hkw : DK X (Gf a c) kws tk wk) (gl : Gl X x := by rfl) (ok : ArgsOk X es kws pos ks := by exact ⟨by first | exact .inl rfl | exact .inr ⟨_, _, rfl, rfl⟩, rfl, rfl, rfl⟩) (hn : es = [] → ts = tNil := by first | exact fun _ => rfl | (intro h; cases h)) (hdb : (x == ("__debug__" : Str)) = false := by decide) (hl : ks.length = m := by rfl) (hK : X.K = K := by rfl) :
    DE X (Gf a c) (.Call (.Name x p) es kws pos) (tMakeP ((Gf a c).cls t) (liftI K Gf t C) n m perm dvs E0 ts tk) (wCallP C n m perm dd wa wk) := by
  subst hK hl
  exact ⟨pg_make M F hr hg gl hm hb hv pass0 ok hn ha.pa hkw.pk hdb, fun E => sim_make (ha.sim E) (hkw.sim E) hd⟩
theorem de_meth {pl : Sem Bool} (K : PySem.W.Frag) (t : Nat) (c' : Cls K ((Gf a c).cls t)) (hm : Meth K ((Gf a c).cls t) mn f) (F : FnG X.prog X.w K X.mg X.base CX0 k f fd ps (lift K Gf C)) (hr : Room k X.A) (hg : X.A.guards = some []) (hb : KBm K fd ps n ks perm ds) (hv : Vals dvs ds) (hd : Dfl K (Gf a c) dvs dd)
    (hmn : mn ∉ (Gf a c).fld t) (he : DE X (Gf a c) o to wo) (ha : DA X (Gf a c) es ts wa) (hkw : DK X (Gf a c) kws tk wk) (ok : ArgsOk X es kws pos ks := by exact ⟨by first | exact .inl rfl | exact .inr ⟨_, _, rfl, rfl⟩, rfl, rfl, rfl⟩) (hn : es = [] → ts = tNil := by first | exact fun _ => rfl | (intro h; cases h))
    (ht : eval (.Call (.Attribute o mn apos) es kws pos) X.env = (do
      let ov ← eval o X.env
      standAt apos.atName
      let (f, first) ← holding [ov] (getMethod ov mn pl)
      callWith pos f first (backTo pos (starEach es X.env)) (backToKw pos (keywordEach kws X.env))) := by rfl) (hl : ks.length = m := by rfl) (hK : X.K = K := by rfl) :
    DE X (Gf a c) (.Call (.Attribute o mn apos) es kws pos) (tMethP ((Gf a c).cls t) mn (lift K Gf C) n m perm dvs E0 to ts tk) (wMeth t C n m perm dd wo wa wk) := by
  subst hK hl
  exact ⟨pg_meth he.pe c' hm F hr hg hb hv pass0 ok hn ha.pa hkw.pk ht, fun E => sim_meth hmn (he.sim E) (ha.sim E) (hkw.sim E) hd⟩
theorem de_inst {fe : Expr} (K : PySem.W.Frag) (t : Nat) (c' : CallI K ((Gf a c).cls t) f) (F : FnG X.prog X.w K X.mg X.base CX0 k f fd ps (lift K Gf C)) (hr : Room k X.A) (hg : X.A.guards = some []) (hb : KBm K fd ps n ks perm ds) (hv : Vals dvs ds) (hd : Dfl K (Gf a c) dvs dd)
    (he : DE X (Gf a c) fe to wo) (ha : DA X (Gf a c) es ts wa) (hkw : DK X (Gf a c) kws tk wk) (ok : ArgsOk X es kws pos ks := by exact ⟨by first | exact .inl rfl | exact .inr ⟨_, _, rfl, rfl⟩, rfl, rfl, rfl⟩) (hn : es = [] → ts = tNil := by first | exact fun _ => rfl | (intro h; cases h))
    (ht : eval (.Call fe es kws pos) X.env = (do callWith pos (← eval fe X.env) [] (backTo pos (starEach es X.env)) (backToKw pos (keywordEach kws X.env))) := by rfl) (hl : ks.length = m := by rfl) (hK : X.K = K := by rfl) :
    DE X (Gf a c) (.Call fe es kws pos) (tInst ((Gf a c).cls t) (lift K Gf C) n m perm dvs E0 to ts tk) (wMeth t C n m perm dd wo wa wk) := by
  subst hK hl
  exact ⟨pg_inst he.pe c' F hr hg hb hv pass0 ok hn ha.pa hkw.pk ht, fun E => sim_inst (he.sim E) (ha.sim E) (hkw.sim E) hd⟩
end
end L3
namespace L3
open PySem PySem.Spec PyProof.Rows L2
/-- the kind: false a list, true a tuple -/
def SqB (K : PySem.W.Frag) (H : Hp) : Bool → Addr → List V → Prop
  | false, a, xs => SqL K H a xs
  | true, a, xs => SqT K H a xs
def seqAt (h : Heap) : Bool → Addr → Array Value → Prop
  | false, a, its => h.IsList a its
  | true, a, its => h.IsTuple a its
def iterAt (h : Heap) : Bool → Addr → Addr → Nat → Prop
  | false, it, a, i => h.IsListIter it a i
  | true, it, a, i => h.IsTupleIter it a i
def iterOb : Bool → Addr → Obj
  | false, a => { cls := .type "list_iterator", data := .fields #[.ref a, .int 0 0] }
  | true, a => { cls := .type "tuple_iterator", data := .fields #[.ref a, .int 0 0] }
theorem iterAt.ob {h : Heap} {t : Bool} {it a : Addr} {i : Nat} (x : iterAt h t it a i) : ∃ o, h.get? it = some o ∧ ∀ v, o.data ≠ .cell v := by
  cases t with
  | false => obtain ⟨o, ho, _, hd⟩ := id x; exact ⟨o, ho, fun v q => by rw [hd] at q; cases q⟩
  | true => obtain ⟨o, ho, _, hd⟩ := id x; exact ⟨o, ho, fun v q => by rw [hd] at q; cases q⟩
theorem iterAt.to {h h' : Heap} {t : Bool} {it a : Addr} {i : Nat} (x : iterAt h t it a i) (k : ∀ o, h.get? it = some o → h'.get? it = some o) : iterAt h' t it a i := by
  cases t with
  | false => exact Heap.IsListIter.at x k
  | true => exact Heap.IsTupleIter.at x k
theorem drawsB {P : Program} {w : World} {A : Around} (hh : A.handled = none) (t : Bool) (it a : Addr) (ne : a ≠ it) (items : Array Value) :
    Draws P w A it [it, a] items.size (fun i v => items[i]? = some v) (fun i h => iterAt h t it a i ∧ seqAt h t a items) := by
  cases t with
  | false => exact Draws.list hh it a ne items
  | true => exact Draws.tuple hh it a ne items
theorem beginsB (t : Bool) (a : Addr) (items : Array Value) : Begins (.ref a) (iterOb t a) fun h => seqAt h t a items := by
  cases t with
  | false => exact begins_list a items
  | true => exact begins_tuple a items
theorem iterOb_at {h : Heap} {t : Bool} {it a : Addr} (e : h.get? it = some (iterOb t a)) : iterAt h t it a 0 := by
  cases t with
  | false => exact ⟨_, e, rfl, rfl⟩
  | true => exact ⟨_, e, rfl, rfl⟩
section
variable {X : Cx} {pins : List (Addr × Obj)} {σ : L2.St} {H : Hp} {s : Shared} {a : Addr} {xs : List V} {t : Bool}
theorem seq_its (I : Inv X pins σ H s) (h : SqB X.K H t a xs) : ∃ its : List Value, Vals xs its ∧ seqAt s.heap t a its.toArray ∧ a < s.heap.objs.size := by
  cases t with
  | false =>
    obtain ⟨its, r, p, _⟩ := I.list h
    exact ⟨its, r, p.isList, p.lt⟩
  | true =>
    obtain ⟨its, r, p, _⟩ := I.tuple h
    obtain ⟨o, ho, _⟩ := id p
    exact ⟨its, r, p, Heap.lt_size ho⟩
theorem seq_inj (I : Inv X pins σ H s) {ys : List V} (h : SqB X.K H t a xs) (h' : SqB X.K H t a ys) : xs = ys := by
  cases t with
  | false => exact I.list_inj h h'
  | true => exact I.tuple_inj h h'
end
def ItEn (K : PySem.W.Frag) (t : Bool) (a : Addr) : It where
  go := fun i H => ∃ (xs : List V) (x : V), SqB K H t a xs ∧ xs[i]? = some x
  yld := fun i H v H' => ∃ T x, v = .ref T ∧ H T = none ∧ H' = upd H T (.tup [.int (i : Nat), x]) ∧ ∀ xs, SqB K H t a xs → xs[i]? = some x
  stop := fun i H => ∃ xs : List V, SqB K H t a xs ∧ xs.length = i
theorem turn_en {P : Program} {w : World} {K : PySem.W.Frag} {elts : List Expr} {kk : Nat} {tpos : Pos} (t : Bool) (a e it : Addr) :
    Turn P w K (.Tuple elts kk tpos) (ItEn K t a) [e, it] e (fun i h => (∃ old, IsEnum h e it ((i : Nat) : Int) old) ∧ iterAt h t it a i ∧ e ≠ it ∧ a ≠ it ∧ e ≠ a) where
  mem := List.mem_cons_self
  obj := fun i h ⟨⟨old, he⟩, hi, _⟩ b hb => by
    rcases List.mem_cons.mp hb with z | z
    · subst z; exact ⟨_, he, fun v q => nomatch q⟩
    · rw [List.mem_singleton.mp z]; exact hi.ob
  keep := fun i h h' ⟨⟨old, he⟩, hi, ne⟩ k => ⟨⟨old, k e List.mem_cons_self _ he⟩, hi.to fun o q => k it (by simp) o q, ne⟩
  item := by
    intro X hP hw hK hc i pins s σ H E I hf ⟨⟨old, he⟩, hit, n1, n2, n3⟩ ⟨xs, x, hq, hx⟩
    subst hP hw hK
    obtain ⟨its, rv, p, _⟩ := seq_its I hq
    obtain ⟨u, hu, ru⟩ := rv.get hx
    have el : e < s.heap.objs.size := Heap.lt_size he
    have il : it < s.heap.objs.size := by obtain ⟨o, ho, _⟩ := hit.ob; exact Heap.lt_size ho
    have lt : i < its.toArray.size := by simpa using (List.getElem?_eq_some_iff.mp hu).1
    refine wpAny_pyNext_enum_itemD (drawsB (A := X.A.in1) (I.ok.hd hc) t it a n2 its.toArray) he ⟨hit, p⟩ lt n1 (by simp [n1, n3]) fun y h1 tk hy ho st1 hT sz hk => ?_
    have ey : y = u := by
      have hu' : its.toArray[i]? = some u := by simpa using hu
      have hy : its.toArray[i]? = some y := hy
      rw [hu'] at hy
      exact (Option.some.inj hy).symm
    subst ey
    refine ⟨_, rfl, wpAny_letOwnedTupleGo_enum (s := { s with heap := h1, toks := tk + 1 }) ho fun h2 he2 sb => ?_⟩
    have hT2 : h2.get? s.heap.objs.size = some { cls := .type "tuple", data := .seq #[.int i tk, y] } := (sb.2 _ (Nat.ne_of_gt el)).trans hT
    have ob : ObjOk X.prog X.w (upd H s.heap.objs.size (.tup [.int (i : Nat), x])) h2 s.heap.objs.size (.tup [.int (i : Nat), x]) :=
      ⟨(by decide : 2 ≤ sizeLine), [.int i tk, y], .cons ⟨_, rfl⟩ (.cons ru .nil), ⟨_, hT2, rfl, _, rfl⟩⟩
    have I2 : Inv X pins σ (upd H s.heap.objs.size (.tup [.int (i : Nat), x])) { s with heap := h2, toks := tk + 1 } := by
      refine I.turnedNew (ch := [e, it]) (fun b o hb q => ?_) hf (Nat.le_refl _) ob
      have b1 : b ≠ e := fun z => hb (by simp [z])
      have b2 : b ≠ it := fun z => hb (by simp [z])
      exact (sb.2 b b1).trans (hk b o b1 b2 q)
    refine ⟨.ref s.heap.objs.size, _, I2, rfl, ⟨_, x, rfl, I.hok.fresh (Nat.le_refl _), rfl, fun ys hy => by rw [seq_inj I hy hq]; exact hx⟩, ⟨⟨y, ?_⟩, st1.1.to fun o q => (sb.2 it n1.symm).trans q, n1, n2, n3⟩, fun b hb => ?_⟩
    · rw [show ((i + 1 : Nat) : Int) = (i : Int) + 1 by omega]; exact he2
    · have lb : b < s.heap.objs.size := by
        rcases List.mem_cons.mp hb with z | z
        · rw [z]; exact el
        · rw [List.mem_singleton.mp z]; exact il
      rw [upd_ne (Nat.ne_of_lt lb)]
      exact (hf b hb).1
  done := by
    intro X hP hw hK hc i pins s σ H E I hf ⟨⟨old, he⟩, hit, n1, n2, n3⟩ ⟨xs, hq, hl⟩
    subst hP hw hK
    obtain ⟨its, rv, p, _⟩ := seq_its I hq
    have en : i = its.toArray.size := by rw [List.size_toArray, ← rv.length]; exact hl.symm
    subst en
    obtain ⟨f0, f1, f2, f3, f4, f5⟩ := hf it (by simp)
    exact wpAny_pyNext_enum_endD (drawsB (A := X.A.in1) (I.ok.hd hc) t it a n2 its.toArray) he ⟨hit, p⟩ fun h1 eb => ⟨rfl, I.turned (t' := s.toks) (fun b o hb q => eb b o hb q) f0 f1 f3 f4 f5⟩
  self := fun A i s Q E ⟨⟨_, he⟩, _⟩ h => wpAny_pyIter_enum he h
def ItZp (K : PySem.W.Frag) (t u : Bool) (a b : Addr) : It where
  go := fun i H => ∃ (xs ys : List V) (x y : V), SqB K H t a xs ∧ SqB K H u b ys ∧ xs[i]? = some x ∧ ys[i]? = some y
  yld := fun i H v H' => ∃ T x y, v = .ref T ∧ H T = none ∧ H' = upd H T (.tup [x, y]) ∧ (∀ xs, SqB K H t a xs → xs[i]? = some x) ∧ ∀ ys, SqB K H u b ys → ys[i]? = some y
  stop := fun i H => ∃ xs ys : List V, SqB K H t a xs ∧ SqB K H u b ys ∧ i ≤ xs.length ∧ i ≤ ys.length ∧ (i = xs.length ∨ i = ys.length)
theorem turn_zp {P : Program} {w : World} {K : PySem.W.Frag} {elts : List Expr} {kk : Nat} {tpos : Pos} {t u : Bool} {a b z TI TO i1 i2 : Addr} (S : ZipSep2 z TI TO i1 i2 [i1, a] [i2, b]) (na : a ≠ i1) (nb : b ≠ i2) :
    Turn P w K (.Tuple elts kk tpos) (ItZp K t u a b) [z, TI, TO, i1, i2] z (fun i h => IsZip h z TI TO .none ∧ IsTupOf2 h TI (.ref i1) (.ref i2) ∧ (∃ x y, IsTupOf2 h TO x y) ∧ iterAt h t i1 a i ∧ iterAt h u i2 b i) where
  mem := List.mem_cons_self
  obj := fun i h ⟨hz, hI, ⟨x, y, hO⟩, h1, h2⟩ c hc => by
    have e : c = z ∨ c = TI ∨ c = TO ∨ c = i1 ∨ c = i2 := by simpa using hc
    rcases e with q | q | q | q | q
    · subst q; exact ⟨_, hz, fun v q => nomatch q⟩
    · subst q; exact ⟨_, hI, fun v q => nomatch q⟩
    · subst q; exact ⟨_, hO, fun v q => nomatch q⟩
    · subst q; exact h1.ob
    · subst q; exact h2.ob
  keep := fun i h h' ⟨hz, hI, ⟨x, y, hO⟩, h1, h2⟩ k => ⟨k z (by simp) _ hz, k TI (by simp) _ hI, ⟨x, y, k TO (by simp) _ hO⟩, h1.to fun o q => k i1 (by simp) o q, h2.to fun o q => k i2 (by simp) o q⟩
  item := by
    intro X hP hw hK hc i pins s σ H E I hf ⟨hz, hI, ⟨x0, y0, hO⟩, h1, h2⟩ ⟨xs, ys, x, y, qx, qy, hx, hy⟩
    subst hP hw hK
    obtain ⟨its, rv, p, _⟩ := seq_its I qx
    obtain ⟨jts, rw', p', _⟩ := seq_its I qy
    obtain ⟨u1, hu1, ru1⟩ := rv.get hx
    obtain ⟨u2, hu2, ru2⟩ := rw'.get hy
    have zl : z < s.heap.objs.size := Heap.lt_size hz
    have l1 : i < its.toArray.size := by simpa using (List.getElem?_eq_some_iff.mp hu1).1
    have l2 : i < jts.toArray.size := by simpa using (List.getElem?_eq_some_iff.mp hu2).1
    refine wpAny_pyNext_zipD2_item S (drawsB (A := X.A.in1) (I.ok.hd hc) t i1 a na its.toArray) (drawsB (A := X.A.in1) (I.ok.hd hc) u i2 b nb jts.toArray) hz hI hO ⟨h1, p⟩ ⟨h2, p'⟩ l1 l2 fun y1 y2 g1 tk e1 e2 gz gO s1 s2 gT sz hk => ?_
    have r1 : y1 = u1 := by
      have q1 : its.toArray[i]? = some u1 := by simpa using hu1
      have e1 : its.toArray[i]? = some y1 := e1
      rw [q1] at e1
      exact (Option.some.inj e1).symm
    have r2 : y2 = u2 := by
      have q1 : jts.toArray[i]? = some u2 := by simpa using hu2
      have e2 : jts.toArray[i]? = some y2 := e2
      rw [q1] at e2
      exact (Option.some.inj e2).symm
    subst r1 r2
    refine ⟨_, rfl, wpAny_letOwnedTupleGo_zip (s := { s with heap := g1, toks := tk }) gz fun g2 gz2 sb => ?_⟩
    have hT2 : g2.get? s.heap.objs.size = some { cls := .type "tuple", data := .seq #[y1, y2] } := (sb.2 _ (Nat.ne_of_gt zl)).trans gT
    have ob : ObjOk X.prog X.w (upd H s.heap.objs.size (.tup [x, y])) g2 s.heap.objs.size (.tup [x, y]) :=
      ⟨(by decide : 2 ≤ sizeLine), [y1, y2], .cons ru1 (.cons ru2 .nil), ⟨_, hT2, rfl, _, rfl⟩⟩
    have I2 : Inv X pins σ (upd H s.heap.objs.size (.tup [x, y])) { s with heap := g2, toks := tk } := by
      refine I.turnedNew (ch := [z, TI, TO, i1, i2]) (fun c o hb q => ?_) hf (Nat.le_refl _) ob
      have b1 : c ≠ z := fun w => hb (by simp [w])
      exact (sb.2 c b1).trans (hk c o b1 (fun w => hb (by simp [w])) (fun w => hb (by simp [w])) (fun w => hb (by simp [w])) q)
    refine ⟨.ref s.heap.objs.size, _, I2, rfl, ⟨_, x, y, rfl, I.hok.fresh (Nat.le_refl _), rfl, fun l hl => by rw [seq_inj I hl qx]; exact hx, fun l hl => by rw [seq_inj I hl qy]; exact hy⟩, ⟨gz2, ?_, ⟨y1, y2, ?_⟩, ?_, ?_⟩, fun c hcm => ?_⟩
    · exact (sb.2 _ S.TIz).trans (hk _ _ S.TIz S.TITO S.TIi1 S.TIi2 hI)
    · exact (sb.2 _ S.TOz).trans gO
    · exact s1.1.to fun o q => (sb.2 _ S.zi1.symm).trans q
    · exact s2.1.to fun o q => (sb.2 _ S.zi2.symm).trans q
    · have lc : c < s.heap.objs.size := by
        have e : c = z ∨ c = TI ∨ c = TO ∨ c = i1 ∨ c = i2 := by simpa using hcm
        rcases e with q | q | q | q | q
        · rw [q]; exact zl
        · rw [q]; exact Heap.lt_size hI
        · rw [q]; exact Heap.lt_size hO
        · rw [q]; obtain ⟨_, w, _⟩ := h1.ob; exact Heap.lt_size w
        · rw [q]; obtain ⟨_, w, _⟩ := h2.ob; exact Heap.lt_size w
      rw [upd_ne (Nat.ne_of_lt lc)]
      exact (hf c hcm).1
  done := by
    intro X hP hw hK hc i pins s σ H E I hf ⟨hz, hI, ⟨x0, y0, hO⟩, h1, h2⟩ ⟨xs, ys, qx, qy, le1, le2, en⟩
    subst hP hw hK
    obtain ⟨its, rv, p, _⟩ := seq_its I qx
    obtain ⟨jts, rw', p', _⟩ := seq_its I qy
    have n1 := rv.length
    have n2 := rw'.length
    exact wpAny_pyNext_zipD2_end S (drawsB (A := X.A.in1) (I.ok.hd hc) t i1 a na its.toArray) (drawsB (A := X.A.in1) (I.ok.hd hc) u i2 b nb jts.toArray) hz hI hO ⟨h1, p⟩ ⟨h2, p'⟩ (by simp; omega) (by simp; omega) (by simp; omega) fun g1 tk hk => ⟨rfl, I.turnedL (t' := tk) (ch := [z, TI, TO, i1, i2])
      (fun c o hb q => hk c o (fun w => hb (by simp [w])) (fun w => hb (by simp [w])) (fun w => hb (by simp [w])) (fun w => hb (by simp [w])) q) hf⟩
  self := fun A i s Q E st h => wpAny_pyIter_zip st.1 h
end L3
namespace L3
open PySem PySem.Spec PyProof.Rows L2
set_option maxHeartbeats 2000000 in
theorem meets_en1 {v : Value} {o : Obj} {H : Heap → Prop} (B : Begins v o H) : Meets (Builtin.«enumerate.__new__» ⟨[.type "enumerate", v], []⟩) (fun _ R s => H s.heap ∧
    R (.ok (.ret (.ref (s.heap.push o).objs.size))) { s with heap := (s.heap.push o).push { cls := .type "enumerate", data := .fields #[.none, .bool false, .ref s.heap.objs.size, rawInt 0, .none, .none] } }) :=
  .of_wp fun prog w A R s hh => by
    obtain ⟨hp, gs, dr, tk, os⟩ := s
    obtain ⟨h1, hr⟩ := hh
    have hsub := sub_enumerate
    have go : ∀ {A' : Around} {E Q : Value → Shared → Prop}, Q (.ref hp.objs.size) ⟨hp.push o, gs, dr, tk, os⟩ → wpAny (model prog w) A' (pyIter v) Q E ⟨hp, gs, dr, tk, os⟩ := fun q => B.iter prog w _ _ ⟨hp, gs, dr, tk, os⟩ _ h1 q
    wp_walk using go
    refine wpAny_stack_any fun st => wpAny_pure ?_
    split
    · rename_i c _ _ _ _ _
      cases c == Value.type "enumerate" <;> (wp_walk using go) <;> exact ⟨_, rfl, hr⟩
    · (wp_walk using go)
      exact ⟨_, rfl, hr⟩
theorem call_en1 {prog : Program} {w : World} {A : Around} {E : Value → Shared → Prop} {s : Shared} {v : Value} {o : Obj} {H : Heap → Prop} {Q : Value → Shared → Prop} (B : Begins v o H) (h1 : H s.heap)
    (h : ∀ h', IsEnum h' (s.heap.objs.size + 1) s.heap.objs.size 0 .none → h'.get? s.heap.objs.size = some o → (∀ b o, s.heap.get? b = some o → h'.get? b = some o) → Q (.ref (s.heap.objs.size + 1)) { s with heap := h' }) :
    wpAny (model prog w) A (call (.type "enumerate") [v]) Q E s := by
  refine callType_new F.called_enumerate (by decide) (F.typeCall_enumerate_1 _) (F.newCall_enumerate_1 _) (fun obj => F.args_object_init_2 obj _) F.entry_enumerate_new (meets_en1 B) ⟨h1, ?_⟩
  have z1 : (s.heap.push o).objs.size = s.heap.objs.size + 1 := Heap.size_push ..
  show _ ∧ _
  rw [z1]
  have he : IsEnum ((s.heap.push o).push { cls := .type "enumerate", data := .fields #[.none, .bool false, .ref s.heap.objs.size, rawInt 0, .none, .none] }) (s.heap.objs.size + 1) s.heap.objs.size 0 .none := by
    have q := Heap.get?_push_size (s.heap.push o) (o := { cls := .type "enumerate", data := .fields #[.none, .bool false, .ref s.heap.objs.size, rawInt 0, .none, .none] }) rfl
    rw [z1] at q
    exact q
  exact ⟨⟨_, he, rfl⟩, h _ he (Heap.get?_push_of_some _ (Heap.get?_push_size _ B.free)) fun b o x => Heap.get?_push_of_some _ (Heap.get?_push_of_some _ x)⟩
def iEn (K : PySem.W.Frag) (ta : TA) : TI := fun σ H R => ta σ H fun vs H1 => ∃ t a xs, vs = [.ref a] ∧ SqB K H1 t a xs ∧ R (ItEn K t a) H1
theorem pi_en {X : Cx} {e : Expr} {ta : TA} {p pos tpos : Pos} {elts : List Expr} {kk : Nat} (hg : Gl X "enumerate") (hm : X.mg "enumerate" = none) (ha : PA X [e] ta) (hs : starEach [e] X.env = [(false, eval e X.env)]) :
    PI X (.Tuple elts kk tpos) (.Call (.Name "enumerate" p) [e] [] pos) (iEn X.K ta) := by
  refine ⟨fun pins s σ H R I h => Call_ (ld_blt I hg hm boot_enumerate (PyProof.Rows.callWith_type1 (thn (ha.run pos pins s σ H _ I h) fun us s1 ⟨vs, H1, I1, r1, t, a, xs, ex, hq, q⟩ => ?_) hs rfl))⟩
  subst ex
  rw [Vals.ref1 r1]
  obtain ⟨its, rv, p', la⟩ := seq_its I1 hq
  refine call_en1 (beginsB t a its.toArray) p' fun h' he hit hk => wpAny_pyIter_enum he ?_
  have I2 : Inv X pins σ H1 { s1 with heap := h' } := I1.kept (t' := s1.toks) hk
  refine ⟨s1.heap.objs.size + 1, [s1.heap.objs.size + 1, s1.heap.objs.size], _, _, H1, rfl, I2, turn_en t a (s1.heap.objs.size + 1) s1.heap.objs.size, ⟨⟨.none, he⟩, iterOb_at hit, Nat.succ_ne_self _, Nat.ne_of_lt la, (Nat.ne_of_lt (Nat.lt_succ_of_lt la)).symm⟩, fun b hb => ?_, q⟩
  have le : s1.heap.objs.size ≤ b := by
    rcases List.mem_cons.mp hb with z | z
    · rw [z]; exact Nat.le_succ _
    · rw [List.mem_singleton.mp z]; exact Nat.le_refl _
  exact I1.fpOk le (I1.hok.fresh le)
def iZp (K : PySem.W.Frag) (ta : TA) : TI := fun σ H R => ta σ H fun vs H1 => ∃ t u a b xs ys, vs = [.ref a, .ref b] ∧ SqB K H1 t a xs ∧ SqB K H1 u b ys ∧ R (ItZp K t u a b) H1
theorem pi_zp {X : Cx} {e e2 : Expr} {ta : TA} {p pos tpos : Pos} {elts : List Expr} {kk : Nat} (hg : Gl X "zip") (hm : X.mg "zip" = none) (ha : PA X [e, e2] ta)
    (hs : starEach [e, e2] X.env = (false, eval e X.env) :: starEach [e2] X.env) (hpl : (backTo pos (starEach [e2] X.env)).any (·.1) = false) : PI X (.Tuple elts kk tpos) (.Call (.Name "zip" p) [e, e2] [] pos) (iZp X.K ta) := by
  refine ⟨fun pins s σ H R I h => Call_ (ld_blt I hg hm PyProof.Rows.boot_zip (PyProof.Rows.callWith_type1 (thn (ha.run pos pins s σ H _ I h) fun us s1 ⟨vs, H1, I1, r1, t, u, a, b, xs, ys, ex, hq, hq', q⟩ => ?_) hs hpl))⟩
  subst ex
  obtain ⟨u1, u2, rfl, r1, r2⟩ := vals2 r1
  cases r1
  cases r2
  obtain ⟨its, rv, p1, la⟩ := seq_its I1 hq
  obtain ⟨jts, rv', p2, lb⟩ := seq_its I1 hq'
  refine zip_begins2 (beginsB t a its.toArray) (beginsB u b jts.toArray) p1 p2 fun h' hz hI hO e1 e2 _ hk => wpAny_pyIter_zip hz ?_
  have I2 : Inv X pins σ H1 { s1 with heap := h' } := I1.kept (t' := s1.toks) hk
  refine ⟨s1.heap.objs.size + 4, [s1.heap.objs.size + 4, s1.heap.objs.size + 2, s1.heap.objs.size + 3, s1.heap.objs.size, s1.heap.objs.size + 1], _, _, H1, rfl, I2,
    turn_zp (zip_sep2 (fp1 := [a]) (fp2 := [b]) (fun c hc => by rw [List.mem_singleton.mp hc]; exact la) fun c hc => by rw [List.mem_singleton.mp hc]; exact lb) (Nat.ne_of_lt la) (Nat.ne_of_lt (Nat.lt_succ_of_lt lb)), ⟨hz, hI, ⟨_, _, hO⟩, iterOb_at e1, iterOb_at e2⟩, fun c hc => ?_, q⟩
  have le : s1.heap.objs.size ≤ c := by
    simp only [List.mem_cons, List.not_mem_nil, or_false] at hc
    rcases hc with z | z | z | z | z <;> (rw [z]; first | exact Nat.le_add_right _ _ | exact Nat.le_refl _)
  exact I1.fpOk le (I1.hok.fresh le)
def enumD : Nat → List D → List D
  | _, [] => []
  | i, d :: ds => .tup [.int (i : Int), d] :: enumD (i + 1) ds
theorem enumD_len : ∀ (i : Nat) (ds : List D), (enumD i ds).length = ds.length
  | _, [] => rfl
  | i, d :: ds => congrArg Nat.succ (enumD_len (i + 1) ds)
theorem enumD_get : ∀ (i : Nat) (ds : List D) (k : Nat), (enumD i ds)[k]? = (ds[k]?).map fun d => .tup [.int ((i + k : Nat) : Int), d]
  | _, [], k => by simp [enumD]
  | i, d :: ds, 0 => by simp [enumD]
  | i, d :: ds, k + 1 => by
    show (enumD (i + 1) ds)[k]? = _
    rw [enumD_get (i + 1) ds k, List.getElem?_cons_succ, show i + 1 + k = i + (k + 1) by omega]
def zipD (ds es : List D) : List D := List.zipWith (fun a b => .tup [a, b]) ds es
theorem zipD_get (ds es : List D) (k : Nat) (d : D) (h : (zipD ds es)[k]? = some d) : ∃ a b, ds[k]? = some a ∧ es[k]? = some b ∧ d = .tup [a, b] := by
  unfold zipD at h
  rw [List.getElem?_zipWith] at h
  split at h
  · rename_i a b ha hb
    exact ⟨a, b, ha, hb, (Option.some.inj h).symm⟩
  · cases h
def wEnum (w : WA) : WI := fun δ R => w δ fun rs δ1 => keeps rs ∧ ∃ d ds, rs.map RD.d = [d] ∧ asS d = some ds ∧ R (enumD 0 ds) δ1
def wZip (w : WA) : WI := fun δ R => w δ fun rs δ1 => keeps rs ∧ ∃ d e ds es, rs.map RD.d = [d, e] ∧ asS d = some ds ∧ asS e = some es ∧ R (zipD ds es) δ1
section
variable {X : Cx} {G : Gx} {K : PySem.W.Frag} {E : Ent}
/-- what a data list stands for -/
theorem rep_seq {H : Hp} {M : List Addr} {v : V} {d : D} {ds : List D} (r : Rep K G (mask M H) v d) (e : asS d = some ds) : ∃ t a xs, v = .ref a ∧ SqB K H t a xs ∧ RepAll K G (mask M H) xs ds := by
  cases d <;> first | (cases e; done) | skip
  · cases e
    obtain ⟨a, xs, rfl, h, rr⟩ := r
    exact ⟨false, a, xs, rfl, SqL.of (mask_le _ _ h), rr⟩
  · cases e
    obtain ⟨a, xs, rfl, h, rr⟩ := r
    exact ⟨true, a, xs, rfl, same_t mask_le h, rr⟩
theorem seq_rep {H H' : Hp} {M : List Addr} {a : Addr} {t : Bool} {d : D} {ds : List D} {xs0 : List V} (h0 : Rep K G (mask M H) (.ref a) d) (e : asS d = some ds) (q0 : SqB K H t a xs0) (h : Rep K G (mask M H') (.ref a) d) (sm : ∀ o, H a = some o → H' a = some o) : True := trivial
/-- the kind of a data list -/
def kindD : D → Bool
  | .tup _ => true
  | _ => false
theorem rep_seqK {H : Hp} {M : List Addr} {a : Addr} {d : D} {ds : List D} (r : Rep K G (mask M H) (.ref a) d) (e : asS d = some ds) : ∃ xs, SqB K H (kindD d) a xs ∧ RepAll K G (mask M H) xs ds := by
  cases d <;> first | (cases e; done) | skip
  · cases e
    obtain ⟨a, xs, ea, h, rr⟩ := r
    cases ea
    exact ⟨xs, SqL.of (mask_le _ _ h), rr⟩
  · cases e
    obtain ⟨a, xs, ea, h, rr⟩ := r
    cases ea
    exact ⟨xs, same_t mask_le h, rr⟩
theorem rep_ref {H : Hp} {v : V} {d : D} {ds : List D} (r : Rep K G H v d) (e : asS d = some ds) : ∃ a, v = .ref a := by
  cases d <;> first | (cases e; done) | skip
  · obtain ⟨a, xs, rfl, _⟩ := r; exact ⟨a, rfl⟩
  · obtain ⟨a, xs, rfl, _⟩ := r; exact ⟨a, rfl⟩
theorem new_pair {M : List Addr} {H : Hp} {T : Addr} {x y : V} {d e : D} (al : ∀ a ∈ M, H a ≠ none) (hT : H T = none) (r1 : Rep K G (mask M H) x d) (r2 : Rep K G (mask M H) y e) : Same H (upd H T (.tup [x, y])) ∧ Rep K G (mask M (upd H T (.tup [x, y]))) (.ref T) (.tup [d, e]) := by
  have sm := same_new (o := .tup [x, y]) hT
  have m := mask_mono (M := M) sm
  refine ⟨sm, T, [x, y], rfl, SqT.of ?_, ⟨x, _, rfl, r1.mono m, ⟨y, _, rfl, r2.mono m, rfl⟩⟩⟩
  rw [mask_out fun z => al T z hT, upd_same]
theorem iterEn {a : Addr} {d : D} {ds : List D} (e : asS d = some ds) : IterOk K G [(.ref a, d)] (ItEn K (kindD d) a) (enumD 0 ds) := fun E am M σ δ H S hg => by
  obtain ⟨xs, hs, r⟩ := rep_seqK (S.gh _ (hg (.ref a, d) (by simp))) e
  refine ⟨fun i hi => ⟨xs, hs, by rw [r.length, ← enumD_len 0]; exact hi⟩, fun i y hy => ?_⟩
  rw [enumD_get] at hy
  obtain ⟨z, hz, rfl⟩ := Option.map_eq_some_iff.mp hy
  obtain ⟨x, hx, rx⟩ := r.get hz
  refine ⟨⟨xs, x, hs, hx⟩, fun v H' ⟨T, x', ev, hT, eH, hx'⟩ => ?_⟩
  have : x' = x := by have := hx' xs hs; rw [hx] at this; exact (Option.some.inj this).symm
  subst this ev eH
  rw [Nat.zero_add]
  exact new_pair S.al hT rfl rx
theorem iterZp {a b : Addr} {d e : D} {ds es : List D} (h1 : asS d = some ds) (h2 : asS e = some es) : IterOk K G [(.ref a, d), (.ref b, e)] (ItZp K (kindD d) (kindD e) a b) (zipD ds es) := fun E am M σ δ H S hg => by
  obtain ⟨xs, hs, r⟩ := rep_seqK (S.gh _ (hg (.ref a, d) (by simp))) h1
  obtain ⟨ys, hs', r'⟩ := rep_seqK (S.gh _ (hg (.ref b, e) (by simp))) h2
  have l1 := r.length
  have l2 := r'.length
  have lz : (zipD ds es).length = min ds.length es.length := by unfold zipD; rw [List.length_zipWith]
  refine ⟨fun i hi => ⟨xs, ys, hs, hs', by omega, by omega, by omega⟩, fun i y hy => ?_⟩
  obtain ⟨p, q, hp, hq, rfl⟩ := zipD_get ds es i y hy
  obtain ⟨x, hx, rx⟩ := r.get hp
  obtain ⟨z, hz, rz⟩ := r'.get hq
  refine ⟨⟨xs, ys, x, z, hs, hs', hx, hz⟩, fun v H' ⟨T, x', z', ev, hT, eH, hx', hz'⟩ => ?_⟩
  have e1 : x' = x := by have := hx' xs hs; rw [hx] at this; exact (Option.some.inj this).symm
  have e2 : z' = z := by have := hz' ys hs'; rw [hz] at this; exact (Option.some.inj this).symm
  subst e1 e2 ev eH
  exact new_pair S.al hT rx rz
variable {ta : TA} {wa : WA} {es : List Expr}
theorem sim_en (h : SimA K G E ta wa) : SimI K G E (iEn K ta) (wEnum wa) := fun am M σ δ H S Rd q R k =>
  h am M σ δ H S _ q _ fun vs rs δ1 H1 S1 e1 o1 rv ⟨hk, d, ds, hd, hs, hR⟩ => by
    have rr := rv.rep hk
    rw [hd] at rr
    obtain ⟨v, xs, rfl, r1, r2⟩ := rr
    have r2 : xs = [] := r2
    subst r2
    obtain ⟨a, rfl⟩ := rep_ref r1 hs
    obtain ⟨xs, hq, _⟩ := rep_seqK r1 hs
    refine ⟨kindD d, a, xs, rfl, hq, k _ _ [(.ref a, d)] δ1 H1 (S1.addgh _ fun p hp => ?_) e1 o1 (iterEn hs) hR⟩
    have : p = (V.ref a, d) := by simpa using hp
    subst this
    exact r1
theorem sim_zp (h : SimA K G E ta wa) : SimI K G E (iZp K ta) (wZip wa) := fun am M σ δ H S Rd q R k =>
  h am M σ δ H S _ q _ fun vs rs δ1 H1 S1 e1 o1 rv ⟨hk, d, e, ds, es, hd, hs, hs', hR⟩ => by
    have rr := rv.rep hk
    rw [hd] at rr
    obtain ⟨v, xs, rfl, r1, u, ys, rfl, r2, r3⟩ := rr
    have r3 : ys = [] := r3
    subst r3
    obtain ⟨a, rfl⟩ := rep_ref r1 hs
    obtain ⟨b, rfl⟩ := rep_ref r2 hs'
    obtain ⟨xs, hq, _⟩ := rep_seqK r1 hs
    obtain ⟨ys, hq', _⟩ := rep_seqK r2 hs'
    refine ⟨kindD d, kindD e, a, b, xs, ys, rfl, hq, hq', k _ _ [(.ref a, d), (.ref b, e)] δ1 H1 (S1.addgh _ fun p hp => ?_) e1 o1 (iterZp hs hs') hR⟩
    simp only [List.mem_cons, List.not_mem_nil, or_false] at hp
    rcases hp with z | z
    · rw [z]; exact r1
    · rw [z]; exact r2
theorem di_en (K : PySem.W.Frag) {a : Expr} {p pos tpos : Pos} {elts : List Expr} {kk : Nat} (hg : Gl X "enumerate") (hm : X.mg "enumerate" = none) (ha : DA X G [a] ta wa) (hs : starEach [a] X.env = [(false, eval a X.env)] := by rfl) (hK : X.K = K := by rfl) :
    DI X G (.Tuple elts kk tpos) (.Call (.Name "enumerate" p) [a] [] pos) (iEn K ta) (wEnum wa) := by
  subst hK
  exact ⟨pi_en hg hm ha.pa hs, fun E => sim_en (ha.sim E)⟩
theorem di_zp (K : PySem.W.Frag) {a b : Expr} {p pos tpos : Pos} {elts : List Expr} {kk : Nat} (hg : Gl X "zip") (hm : X.mg "zip" = none) (ha : DA X G [a, b] ta wa)
    (hs : starEach [a, b] X.env = (false, eval a X.env) :: starEach [b] X.env := by rfl) (hpl : (backTo pos (starEach [b] X.env)).any (·.1) = false := by rfl) (hK : X.K = K := by rfl) :
    DI X G (.Tuple elts kk tpos) (.Call (.Name "zip" p) [a, b] [] pos) (iZp K ta) (wZip wa) := by
  subst hK
  exact ⟨pi_zp hg hm ha.pa hs hpl, fun E => sim_zp (ha.sim E)⟩
end
def isSeq : D → (List D → Prop) → Prop
  | .lst ds, Q => Q ds
  | .tup ds, Q => Q ds
  | _, _ => False
@[simp] theorem isSeq_0 (ds : List D) (Q : List D → Prop) : isSeq (.lst ds) Q = Q ds := rfl
@[simp] theorem isSeq_1 (ds : List D) (Q : List D → Prop) : isSeq (.tup ds) Q = Q ds := rfl
theorem isSeq_eq (d : D) (Q : List D → Prop) : (∃ ds, asS d = some ds ∧ Q ds) = isSeq d Q := by
  cases d <;> simp [isSeq, asS]
def one1 : List RD → (D → Prop) → Prop
  | [a], Q => Q a.d
  | _, _ => False
def two2 : List RD → (D → D → Prop) → Prop
  | [a, b], Q => Q a.d b.d
  | _, _ => False
@[simp] theorem one1_0 (a : RD) (Q : D → Prop) : one1 [a] Q = Q a.d := rfl
@[simp] theorem two2_0 (a b : RD) (Q : D → D → Prop) : two2 [a, b] Q = Q a.d b.d := rfl
theorem one1_eq (rs : List RD) (Q : D → Prop) : (∃ d, rs.map RD.d = [d] ∧ Q d) = one1 rs Q := by
  match rs with
  | [] => simp [one1]
  | [a] => simp
  | a :: b :: r => simp [one1]
theorem two2_eq (rs : List RD) (Q : D → D → Prop) : (∃ d e, rs.map RD.d = [d, e] ∧ Q d e) = two2 rs Q := by
  match rs with
  | [] => simp [two2]
  | [a] => simp [two2]
  | [a, b] =>
    refine propext ⟨fun ⟨d, e, h, q⟩ => ?_, fun q => ⟨a.d, b.d, rfl, q⟩⟩
    have h : [a.d, b.d] = [d, e] := h
    cases h
    exact q
  | a :: b :: c :: r => simp [two2]
@[simp] theorem wEnum_eq (w : WA) (δ : St3) (R : List D → St3 → Prop) : wEnum w δ R = w δ fun rs δ1 => keeps rs ∧ one1 rs fun d => isSeq d fun ds => R (enumD 0 ds) δ1 := by
  unfold wEnum
  simp only [← isSeq_eq, ← one1_eq, exists_and_left]
@[simp] theorem wZip_eq (w : WA) (δ : St3) (R : List D → St3 → Prop) : wZip w δ R = w δ fun rs δ1 => keeps rs ∧ two2 rs fun d e => isSeq d fun ds => isSeq e fun es => R (zipD ds es) δ1 := by
  unfold wZip
  simp only [← isSeq_eq, ← two2_eq, exists_and_left]
end L3
namespace L3
open PySem PySem.Spec PyProof.Rows L2
abbrev WO := St3 → (Option Int → St3 → Prop) → Prop
@[simp] def wNoP : WO := fun δ Q => Q none δ
def isI : D → (Int → Prop) → Prop
  | .int i, Q => Q i
  | _, _ => False
@[simp] theorem isI_0 (i : Int) (Q : Int → Prop) : isI (.int i) Q = Q i := rfl
@[simp] def wP (w : WE) : WO := fun δ Q => w δ fun r δ1 => isI r.d fun i => Q (some i) δ1
def cutD (ds : List D) (lo hi : Option Int) : List D := (ds.drop (HT.sIx ds.length 0 lo)).take (HT.sIx ds.length ds.length hi - HT.sIx ds.length 0 lo)
def fSl (lo hi : Option Int) : F1
  | .lst ds, Q => Q (.fr (.lst (cutD ds lo hi)))
  | .tup ds, Q => Q (.sh (.tup (cutD ds lo hi)))
  | .str z, Q => z.length ≤ 16777216 ∧ Q (.sh (.str (cutS z lo hi)))
  | _, _ => False
@[simp] theorem fSl_0 (lo hi : Option Int) (ds : List D) (Q : RD → Prop) : fSl lo hi (.lst ds) Q = Q (.fr (.lst (cutD ds lo hi))) := rfl
@[simp] theorem fSl_1 (lo hi : Option Int) (ds : List D) (Q : RD → Prop) : fSl lo hi (.tup ds) Q = Q (.sh (.tup (cutD ds lo hi))) := rfl
@[simp] theorem fSl_2 (lo hi : Option Int) (z : Str) (Q : RD → Prop) : fSl lo hi (.str z) Q = (z.length ≤ 16777216 ∧ Q (.sh (.str (cutS z lo hi)))) := rfl
@[simp] def wSl (w : WE) (l h : WO) : WE := fun δ Q => w δ fun x δ1 => l δ1 fun lo δ2 => h δ2 fun hi δ3 => (x.bor → δ3.sl = δ1.sl) ∧ fSl lo hi x.d fun q => Q q δ3
def SimO (K : PySem.W.Frag) (G : Gx) (E : Ent) (to : TO) (w : WO) : Prop := ∀ (am : Nat → Addr) (M : List Addr) (σ : L2.St) (δ : St3) (H : Hp), SR K G E am M σ δ H → ∀ Qd : Option Int → St3 → Prop, w δ Qd → ∀ Q : Option Int → Hp → Prop,
  (∀ (o : Option Int) (δ' : St3) (H' : Hp), SR K G E am M σ δ' H' → Ext G am δ H H' → (∀ i, isOwn δ' i → isOwn δ i) → Qd o δ' → Q o H') → to σ H Q
structure DO (X : Cx) (G : Gx) (e : Option Expr) (to : TO) (w : WO) : Prop where
  po : PO X e to
  sim : ∀ E, SimO X.K G E to w
def rSlAll (K : PySem.W.Frag) : V → Option Int → Option Int → Hp → VK → Prop := fun x lo hi H Q => rSlL K x lo hi H Q ∨ (rSlA K x lo hi H Q ∨ rSlS x lo hi H Q)
section
variable {X : Cx} {G : Gx} {K : PySem.W.Frag} {E : Ent} {e : Expr} {te : TE} {we : WE} {lo hi : Option Expr} {tl th : TO} {wl wh : WO} {p2 pos : Pos}
theorem do_none : DO X G none tNoPart wNoP := ⟨po_none, fun _ am M σ δ H S Qd q Q k => k none δ H S .refl (fun _ z => z) q⟩
theorem do_some (h : DE X G e te we) : DO X G (some e) (tPart te) (wP we) := ⟨po_some h.pe, fun E am M σ δ H S Qd q Q k => h.sim E am M σ δ H S _ q _ fun v r δ1 H1 S1 e1 o1 rv q => by
  cases er : r.d <;> rw [er] at q <;> first | exact q.elim | skip
  have := rv.k.rb S1
  rw [er] at this
  exact ⟨_, this.int, k _ δ1 H1 S1 e1 o1 q⟩⟩
theorem RepAll.cut {H : Hp} {xs : List V} {ds : List D} (r : RepAll K G H xs ds) (lo hi : Option Int) : RepAll K G H (cutV xs lo hi) (cutD ds lo hi) := by
  unfold cutV cutD
  rw [r.length]
  exact (r.drop _).take _
theorem uns_sl (lo hi : Option Int) : UnS K G (fun x H Q => rSlAll K x lo hi H Q) (fSl lo hi) := fun M H x d al bx Qd h Q k => by
  cases d <;> first | exact h.elim | skip
  · obtain ⟨h1, h⟩ := h
    exact .inr (.inr ⟨_, bx.str, by rw [line16]; exact h1, k _ _ H (Same.refl _) rn_str h⟩)
  · obtain ⟨a, xs, rfl, ha, r⟩ := bx.lst
    exact .inl ⟨a, xs, rfl, SqL.of ha, fun p hp => k _ _ _ (same_new hp) (rn_lst hp (r.cut lo hi)) h⟩
  · rename_i ds
    have bb := bx
    obtain ⟨a, xs, rfl, ha, r⟩ := bx.tup
    refine .inr (.inl ⟨a, xs, rfl, ha, fun ⟨z1, z2⟩ => ?_, fun _ p hp => k _ _ _ (same_new hp) (rn_tup al hp (r.cut lo hi)) h⟩)
    have e : cutD ds lo hi = ds := by
      unfold cutD
      rw [← r.length, z1, z2, List.drop_zero, Nat.sub_zero, r.length]
      exact List.take_of_length_le (Nat.le_refl _)
    have h : Qd (.sh (.tup (cutD ds lo hi))) := h
    rw [e] at h
    exact k _ _ H (Same.refl _) (rn_sh bb.shT) h
theorem sim_sl (ha : SimE K G E te we) (hl : SimO K G E tl wl) (hh : SimO K G E th wh) : SimE K G E (tSl (rSlAll K) te tl th) (wSl we wl wh) := fun am M σ δ H S Qd q Q k =>
  ha am M σ δ H S _ q _ fun x rx δ1 H1 S1 e1 o1 v1 q => hl am M σ δ1 H1 S1 _ q _ fun lo δ2 H2 S2 e2 o2 q => hh am M σ δ2 H2 S2 _ q _ fun hi δ3 H3 S3 e3 o3 ⟨st, q⟩ => by
    have e23 := e2.trans o2 e3
    have bx := (v1.k.later (δ2 := δ3) S1 e23 st).rb S3
    exact uns_sl lo hi M H3 x _ S3.al bx _ q _ fun v q H4 sm rn hq => k v q δ3 H4 (S3.grow sm) ((e1.trans o1 e23).trans (fun i z => o1 i (o2 i (o3 i z))) (Ext.of (δ := δ3) sm)) (fun i z => o1 i (o2 i (o3 i z))) (rn.rv S3 sm) hq
theorem de_slice (K : PySem.W.Frag) (ha : DE X G e te we) (hl : DO X G lo tl wl) (hh : DO X G hi th wh) (hK : X.K = K := by rfl) : DE X G (.Subscript e (.Slice lo hi none p2) pos) (tSl (rSlAll K) te tl th) (wSl we wl wh) := by
  subst hK
  exact ⟨pe_slice (sl_list.or (sl_tupA.or sl_str)) ha.pe hl.po hh.po, fun E => sim_sl (ha.sim E) (hl.sim E) (hh.sim E)⟩
end
def tyIs : D → String → Option Bool
  | .non, t => some (t == "NoneType")
  | .bl _, t => some (t == "bool" || t == "int")
  | .int _, t => some (t == "int")
  | .str _, t => some (t == "str")
  | .lst _, t => some (t == "list")
  | .tup _, t => some (t == "tuple")
  | .dct _ _, t => some (t == "dict")
  | _, _ => none
def fIsI (t : String) : F1 := fun d Q => ∃ b, tyIs d t = some b ∧ Q (.sh (.bl b))
@[simp] theorem fIsI_bl (t : String) (i : Bool) (Q : RD → Prop) : fIsI t (.bl i) Q = Q (.sh (.bl (t == "bool" || t == "int"))) := by simp [fIsI, tyIs]
@[simp] theorem fIsI_int (t : String) (i : Int) (Q : RD → Prop) : fIsI t (.int i) Q = Q (.sh (.bl (t == "int"))) := by simp [fIsI, tyIs]
@[simp] theorem fIsI_str (t : String) (i : Str) (Q : RD → Prop) : fIsI t (.str i) Q = Q (.sh (.bl (t == "str"))) := by simp [fIsI, tyIs]
@[simp] theorem fIsI_lst (t : String) (i : List D) (Q : RD → Prop) : fIsI t (.lst i) Q = Q (.sh (.bl (t == "list"))) := by simp [fIsI, tyIs]
@[simp] theorem fIsI_tup (t : String) (i : List D) (Q : RD → Prop) : fIsI t (.tup i) Q = Q (.sh (.bl (t == "tuple"))) := by simp [fIsI, tyIs]
@[simp] theorem fIsI_non (t : String) (Q : RD → Prop) : fIsI t .non Q = Q (.sh (.bl (t == "NoneType"))) := by simp [fIsI, tyIs]
/-- the class's answers as the kit tells them -/
def goodT (t : String) : Prop := kitB "NoneType" t = some (t == "NoneType") ∧ kitB "bool" t = some (t == "bool" || t == "int") ∧ kitB "int" t = some (t == "int") ∧ kitB "str" t = some (t == "str") ∧ kitB "list" t = some (t == "list") ∧ kitB "tuple" t = some (t == "tuple") ∧ kitB "dict" t = some (t == "dict")
instance (t : String) : Decidable (goodT t) := inferInstanceAs (Decidable (_ ∧ _))
section
variable {X : Cx} {G : Gx} {K : PySem.W.Frag} {E : Ent} {e : Expr} {te : TE} {we : WE} {pos : Pos}
def tIsI (K : PySem.W.Frag) (t : String) (te : TE) : TE := tCB (rIsi K) (tCons te (tCons (tC (.ty t)) tNil))
theorem sim_isi {t : String} (hT : goodT t) (h : SimE K G E te we) : SimE K G E (tIsI K t te) (wUn (fIsI t) we) := fun am M σ δ H S Qd q Q k =>
  h am M σ δ H S _ q _ fun x r δ1 H1 S1 e1 o1 rv ⟨b, hb, q⟩ => by
    obtain ⟨g1, g2, g3, g4, g5, g6, g7⟩ := hT
    have bx := rv.k.rb S1
    have fin : ∀ a : String, TyX K H1 x (.type a) → kitB a t = some b → tIsI K t te σ H Q → True := fun _ _ _ _ => trivial
    suffices ∃ a : String, TyX K H1 x (.type a) ∧ kitB a t = some b by
      obtain ⟨a, ty, hk⟩ := this
      exact ⟨x, .ty t, .type a, .type t, b, rfl, .ty t, ty, kit_ty hk, k (.bl b) (.sh (.bl b)) δ1 H1 S1 e1 o1 rfl q⟩
    generalize r.d = d at hb bx
    cases d <;> simp only [tyIs] at hb <;> first | (cases hb; done) | skip
    · cases hb; rw [bx.non]; exact ⟨_, .base .non, g1⟩
    · cases hb; rw [bx.bl]; exact ⟨_, .base (.bl _), g2⟩
    · cases hb; rw [bx.int]; exact ⟨_, .base (.int _), g3⟩
    · cases hb; rw [bx.str]; exact ⟨_, .base (.str _), g4⟩
    · cases hb
      obtain ⟨p, xs, rfl, hp, _⟩ := bx.lst
      exact ⟨_, .base (.lst hp), g5⟩
    · cases hb
      obtain ⟨p, xs, rfl, hp, _⟩ := bx.tup
      rcases hp with (hp | ⟨o, hp⟩) | ⟨o, its, n, hk, hc, _⟩
      · exact ⟨_, .base (.tup hp), g6⟩
      · exact ⟨_, .fTuple hp, g6⟩
      · exact ⟨_, .kTuple hk hc, g6⟩
    · cases hb
      obtain ⟨p, xs, rfl, hp, _⟩ := bx.dct
      exact ⟨_, .base (.dK hp), g7⟩
theorem de_isi (K : PySem.W.Frag) {t : String} {xt : Str} {p pt : Pos} (hT : goodT t) (h : DE X G e te we) (hm : X.mg "isinstance" = none) (hmt : X.mg xt = none) (hvt : bootBuiltins xt = some (.type t)) (gl : Gl X "isinstance" := by rfl) (glt : Gl X xt := by rfl)
    (hv : bootBuiltins "isinstance" = some (.builtin "isinstance") := by decide +kernel) (hnt : xt ≠ "__name__" := by decide) (hdt : (xt == ("__debug__" : Str)) = false := by decide)
    (hs : starEach [e, .Name xt pt] X.env = (false, eval e X.env) :: starEach [.Name xt pt] X.env := by rfl) (hs2 : starEach [.Name xt pt] X.env = (false, eval (.Name xt pt) X.env) :: starEach [] X.env := by rfl)
    (hpl : (backTo pos (starEach [.Name xt pt] X.env)).any (·.1) = false := by rfl) (hK : X.K = K := by rfl) :
    DE X G (.Call (.Name "isinstance" p) [e, .Name xt pt] [] pos) (tIsI K t te) (wUn (fIsI t) we) := by
  subst hK
  exact ⟨pe_callB call_isi gl hm hv (pa_cons h.pe (pa_cons (pe_bltn glt hmt hvt rfl hnt hdt) pa_nil hs2) hs) (by decide) (by decide) hs hpl, fun E => sim_isi hT (h.sim E)⟩
end
def fSum : FC := fun ds Q => ∃ ns : List Int, ds = [.lst (ns.map D.int)] ∧ Q (.sh (.int ns.sum))
def fMax : FC := fun ds Q => ∃ ns : List Int, ds = [.lst (ns.map D.int)] ∧ ns ≠ [] ∧ ∀ m, m ∈ ns → (∀ y ∈ ns, y ≤ m) → Q (.sh (.int m))
def fMin : FC := fun ds Q => ∃ ns : List Int, ds = [.lst (ns.map D.int)] ∧ ns ≠ [] ∧ ∀ m, m ∈ ns → (∀ y ∈ ns, m ≤ y) → Q (.sh (.int m))
def fSorted : FC := fun ds Q => ∃ ns : List Int, ds = [.lst (ns.map D.int)] ∧ ∀ ns' : List Int, ns'.Perm ns → ns'.Pairwise (· ≤ ·) → Q (.fr (.lst (ns'.map D.int)))
def fAll : FC := fun ds Q => ∃ bs : List Bool, ds = [.lst (bs.map D.bl)] ∧ Q (.sh (.bl (bs.all id)))
def fAny : FC := fun ds Q => ∃ bs : List Bool, ds = [.lst (bs.map D.bl)] ∧ Q (.sh (.bl (bs.any id)))
section
variable {X : Cx} {G : Gx} {K : PySem.W.Frag}
theorem lst1 {M : List Addr} {H : Hp} {vs : List V} {ns : List Int} (b : RBs K G M H vs [.lst (ns.map D.int)]) : ∃ p, vs = [.ref p] ∧ SqL K H p (ns.map V.int) := by
  obtain ⟨v, rfl, b1⟩ := b.one
  obtain ⟨p, xs, rfl, hp, r⟩ := b1.lst
  rw [r.ints] at hp
  exact ⟨p, rfl, SqL.of hp⟩
theorem lst1b {M : List Addr} {H : Hp} {vs : List V} {ns : List Bool} (b : RBs K G M H vs [.lst (ns.map D.bl)]) : ∃ p, vs = [.ref p] ∧ SqL K H p (ns.map V.bl) := by
  obtain ⟨v, rfl, b1⟩ := b.one
  obtain ⟨p, xs, rfl, hp, r⟩ := b1.lst
  rw [r.bls] at hp
  exact ⟨p, rfl, SqL.of hp⟩
theorem calls_sum : CallS K G (rSum K) fSum := fun M H vs ds al b Qd h Q k => by
  obtain ⟨ns, rfl, h⟩ := h
  obtain ⟨p, rfl, hp⟩ := lst1 b
  exact ⟨p, ns, rfl, hp, k _ _ H (Same.refl _) rn_int h⟩
theorem calls_max : CallS K G (rMax K) fMax := fun M H vs ds al b Qd h Q k => by
  obtain ⟨ns, rfl, h0, h⟩ := h
  obtain ⟨p, rfl, hp⟩ := lst1 b
  exact ⟨p, ns, rfl, hp, List.length_pos_iff.mpr h0, fun m hm hy => k _ _ H (Same.refl _) rn_int (h m hm hy)⟩
theorem calls_min : CallS K G (rMin K) fMin := fun M H vs ds al b Qd h Q k => by
  obtain ⟨ns, rfl, h0, h⟩ := h
  obtain ⟨p, rfl, hp⟩ := lst1 b
  exact ⟨p, ns, rfl, hp, List.length_pos_iff.mpr h0, fun m hm hy => k _ _ H (Same.refl _) rn_int (h m hm hy)⟩
theorem calls_sorted : CallS K G (rSortedI K) fSorted := fun M H vs ds al b Qd h Q k => by
  obtain ⟨ns, rfl, h⟩ := h
  obtain ⟨p, rfl, hp⟩ := lst1 b
  exact ⟨p, ns, rfl, hp, fun ns' q pm st hq => k _ _ _ (same_new hq) (rn_lst hq (RepAll.of_ints ns')) (h ns' pm st)⟩
theorem calls_all : CallS K G (rAll K) fAll := fun M H vs ds al b Qd h Q k => by
  obtain ⟨ns, rfl, h⟩ := h
  obtain ⟨p, rfl, hp⟩ := lst1b b
  exact ⟨p, ns, rfl, hp, k _ _ H (Same.refl _) rn_bl h⟩
theorem calls_any : CallS K G (rAny K) fAny := fun M H vs ds al b Qd h Q k => by
  obtain ⟨ns, rfl, h⟩ := h
  obtain ⟨p, rfl, hp⟩ := lst1b b
  exact ⟨p, ns, rfl, hp, k _ _ H (Same.refl _) rn_bl h⟩
theorem call_sumK (K : PySem.W.Frag) (hc : X.calm = true) (hK : X.K = K := by rfl) : CallR X (.builtin "sum") (rSum K) := by subst hK; exact cr_sum hc
theorem call_maxK (K : PySem.W.Frag) (hc : X.calm = true) (hK : X.K = K := by rfl) : CallR X (.builtin "max") (rMax K) := by subst hK; exact cr_max hc
theorem call_minK (K : PySem.W.Frag) (hc : X.calm = true) (hK : X.K = K := by rfl) : CallR X (.builtin "min") (rMin K) := by subst hK; exact cr_min hc
theorem call_sortedK (K : PySem.W.Frag) (hK : X.K = K := by rfl) : CallR X (.builtin "sorted") (rSortedI K) := by subst hK; exact cr_sortedI
theorem call_allK (K : PySem.W.Frag) (hc : X.calm = true) (hK : X.K = K := by rfl) : CallR X (.builtin "all") (rAll K) := by subst hK; exact cr_all hc
theorem call_anyK (K : PySem.W.Frag) (hc : X.calm = true) (hK : X.K = K := by rfl) : CallR X (.builtin "any") (rAny K) := by subst hK; exact cr_any hc
end
@[simp] def wLRg1 (w : WE) : WE := fun δ Q => w δ fun r δ1 => isI r.d fun n => n ≤ 16777216 ∧ -(2 ^ 62) ≤ n ∧ Q (.fr (.lst (rng 0 n.toNat))) δ1
@[simp] def wTRg1 (w : WE) : WE := fun δ Q => w δ fun r δ1 => isI r.d fun n => n ≤ 16777216 ∧ -(2 ^ 62) ≤ n ∧ Q (.sh (.tup (rng 0 n.toNat))) δ1
@[simp] def wLRg2 (a b : WE) : WE := fun δ Q => a δ fun r δ1 => b δ1 fun s δ2 => (r.bor → δ2.sl = δ1.sl) ∧ isI r.d fun i => isI s.d fun j => RgOk i j ∧ Q (.fr (.lst (rng i (j - i).toNat))) δ2
@[simp] def wTRg2 (a b : WE) : WE := fun δ Q => a δ fun r δ1 => b δ1 fun s δ2 => (r.bor → δ2.sl = δ1.sl) ∧ isI r.d fun i => isI s.d fun j => RgOk i j ∧ Q (.sh (.tup (rng i (j - i).toNat))) δ2
section
variable {X : Cx} {G : Gx} {K : PySem.W.Frag} {E : Ent} {a b : Expr} {ta tb : TE} {wa wb : WE} {p p2 pos pos2 : Pos}
theorem rep_rg {H : Hp} (i j : Int) : RepAll K G H (rgV i j) (rng i (j - i).toNat) := by
  unfold rgV rng
  have key : ∀ (n : Nat) (f : Nat → Int), RepAll K G H ((List.range n).map fun k => V.int (f k)) ((List.range n).map fun k => D.int (f k)) := fun n f => by
    have := RepAll.of_ints (K := K) (G := G) (H := H) ((List.range n).map f)
    rw [List.map_map, List.map_map] at this
    exact this
  exact key _ _
theorem isI_of {am : Nat → Addr} {M : List Addr} {σ : L2.St} {δ : St3} {H : Hp} {v : V} {r : RD} {Q : Int → Prop} (S : SR K G E am M σ δ H) (rv : RK K G am M δ H v r) (q : isI r.d Q) : ∃ i, r.d = .int i ∧ v = .int i ∧ Q i := by
  have rb := rv.rb S
  generalize r.d = d at q rb
  cases d <;> first | exact q.elim | skip
  exact ⟨_, rfl, rb.int, q⟩
theorem de_lrg1 (ha : DE X G a ta wa) (hm : X.mg "list" = none) (hm2 : X.mg "range" = none) (hc : X.calm = true := by rfl) (g1 : Gl X "list" := by rfl) (g2 : Gl X "range" := by rfl) (na : starEach [a] X.env = (false, eval a X.env) :: starEach [] X.env := by rfl)
    (nr : starEach [.Call (.Name "range" p) [a] [] pos] X.env = (false, eval (.Call (.Name "range" p) [a] [] pos) X.env) :: starEach [] X.env := by rfl) :
    DE X G (.Call (.Name "list" p2) [.Call (.Name "range" p) [a] [] pos] [] pos2) (tLstRg (tRg1 ta)) (wLRg1 wa) := ⟨pe_listRg hc g1 hm (prg_1 g2 hm2 ha.pe na) nr, fun E am M σ δ H S Qd q Q k => ha.sim E am M σ δ H S _ q _ fun v r δ1 H1 S1 e1 o1 rv q => by
  obtain ⟨n, _, rfl, h1, h2, q⟩ := isI_of S1 rv.k q
  refine ⟨n, rfl, ⟨by omega, by omega, by omega, by omega, by omega⟩, fun l hl => ?_⟩
  have sm := same_new (o := .lst (rgV 0 n)) hl
  have rr : RN X.K G M H1 (upd H1 l (.lst (rgV 0 n))) (.ref l) (.fr (.lst (rng 0 n.toNat))) := by
    have := rep_rg (K := X.K) (G := G) (H := mask M H1) 0 n
    rw [Int.sub_zero] at this
    exact rn_lst hl this
  exact k _ _ δ1 _ (S1.grow sm) (e1.trans o1 (Ext.of (δ := δ1) sm)) o1 (rr.rv S1 sm) q⟩
theorem de_trg1 (ha : DE X G a ta wa) (hm : X.mg "tuple" = none) (hm2 : X.mg "range" = none) (hc : X.calm = true := by rfl) (g1 : Gl X "tuple" := by rfl) (g2 : Gl X "range" := by rfl) (na : starEach [a] X.env = (false, eval a X.env) :: starEach [] X.env := by rfl)
    (nr : starEach [.Call (.Name "range" p) [a] [] pos] X.env = (false, eval (.Call (.Name "range" p) [a] [] pos) X.env) :: starEach [] X.env := by rfl) :
    DE X G (.Call (.Name "tuple" p2) [.Call (.Name "range" p) [a] [] pos] [] pos2) (tTupRg (tRg1 ta)) (wTRg1 wa) := ⟨pe_tupRg hc g1 hm (prg_1 g2 hm2 ha.pe na) nr, fun E am M σ δ H S Qd q Q k => ha.sim E am M σ δ H S _ q _ fun v r δ1 H1 S1 e1 o1 rv q => by
  obtain ⟨n, _, rfl, h1, h2, q⟩ := isI_of S1 rv.k q
  refine ⟨n, rfl, ⟨by omega, by omega, by omega, by omega, by omega⟩, fun l hl => ?_⟩
  have sm := same_new (o := .tup (rgV 0 n)) hl
  have rr : RN X.K G M H1 (upd H1 l (.tup (rgV 0 n))) (.ref l) (.sh (.tup (rng 0 n.toNat))) := by
    have := rep_rg (K := X.K) (G := G) (H := mask M H1) 0 n
    rw [Int.sub_zero] at this
    exact rn_tup S1.al hl this
  exact k _ _ δ1 _ (S1.grow sm) (e1.trans o1 (Ext.of (δ := δ1) sm)) o1 (rr.rv S1 sm) q⟩
end
end L3
namespace L3
open PySem PySem.Spec PyProof.Rows L2
def kGreat : Key := Sum.inr "great"
def kMixed : Key := Sum.inr "mixed"
theorem k_gm : kGreat ≠ kMixed := by decide +kernel
def dgv (c : Addr) (b : Int) : List (Key × V) := [(kGreat, .ref c), (kMixed, .int b)]
theorem dgv_g {c : Addr} {b : Int} : valV (dgv c b) kGreat = some (.ref c) := valV_pos rfl
theorem dgv_m {c : Addr} {b : Int} : valV (dgv c b) kMixed = some (.int b) := (valV_neg k_gm).trans (valV_pos rfl)
theorem dgv_put {c : Addr} {b u : Int} : putK (dgv c b) kMixed (.int u) = dgv c u := by
  unfold putK
  rw [valV_any, dgv_m, if_pos (show (some (V.int b)).isSome = true from rfl)]
  show [if kGreat = kMixed then (kGreat, V.int u) else (kGreat, .ref c), if kMixed = kMixed then (kMixed, V.int u) else (kMixed, .int b)] = _
  rw [if_neg k_gm, if_pos rfl]
  all_goals rfl
def DkG (p c : Addr) (H : Hp) : Prop := ∃ (ns : List Int) (b : Int), H p = some (.dK (dgv c b)) ∧ H c = some (.lst (ns.map V.int)) ∧ ns.length ≤ 63 ∧ 0 ≤ b ∧ b < 2147483587
def GB (cls : Nat → Addr) (fld : Nat → List Str) (p c : Addr) : Gx where
  cls := cls
  fld := fld
  deck := p
  dk := [p, c]
  DI := fun _ H => DkG p c H
  frame := fun n H H' h ⟨ns, b, h1, h2, h3⟩ => ⟨ns, b, h p (by simp) _ h1, h c (by simp) _ h2, h3⟩
  dal := fun n H ⟨ns, b, h1, h2, _⟩ a ha => by
    have ha : a = p ∨ a = c := by simpa using ha
    rcases ha with z | z
    · rw [z, h1]; simp
    · rw [z, h2]; simp
def CdrawB : Con := fun ds n Q => ∃ m : Int, ds = [.deck, .int m] ∧ 1 ≤ m ∧ m.natAbs.log2 < 9000 ∧ ∀ r : Int, 0 ≤ r → r < m → Q (.int r) n
theorem drawB_le {n : Nat} {m : Int} {Q : D → Nat → Prop} (h1 : 1 ≤ m) (hs : Sz 8999 m) (q : ∀ r : Int, 0 ≤ r → r < m → Q (.int r) n) : CdrawB [.deck, .int m] n Q := ⟨m, rfl, h1, hs.log (by omega) (by omega), q⟩
def CpickB : Con := fun ds n Q => ∃ xs : List D, (ds = [.deck, .lst xs] ∨ ds = [.deck, .tup xs]) ∧ xs ≠ [] ∧ xs.length ≤ 1000 ∧ ∀ x ∈ xs, Q x n
theorem pickB_ints {n : Nat} {xs : List D} {Q : D → Nat → Prop} (P : Int → Prop) (h0 : xs ≠ []) (hl : xs.length ≤ 1000) (hP : ∀ x ∈ xs, ∃ i, x = .int i ∧ P i) (q : ∀ i : Int, P i → Q (.int i) n) : CpickB [.deck, .lst xs] n Q :=
  ⟨xs, .inl rfl, h0, hl, fun x hx => by obtain ⟨i, rfl, hi⟩ := hP x hx; exact q i hi⟩
section
variable {K : PySem.W.Frag} {cls : Nat → Addr} {fld : Nat → List Str}
abbrev tGt : TE := tDGet (tVar 0) (tC (.str "great"))
def tDrawB2 : TS :=
  tSeq (sDPut (tVar 0) (tC (.str "mixed")) (tVar 3))
  (tSeq (tAsg (tModN (tInt1 (tCons (tAddI (tMulI (tVar 3) (tVar 3)) (tMulI (tC (.int 39373)) (tVar 3))) tNil)) (tC (.int 2147483579))) (gName 3))
  (tRet (tModN (tOp (rI CDivA fun i j => .int (i.fdiv j)) (tVar 3) (tC (.int 64))) (tVar 1))))
def tDrawB (K : PySem.W.Frag) (k1 : Int) : TS :=
  tSeq (tIfS (tTest (tOp (rNeD K) tGt (tLst tNil)))
    (tSeq (tAsg (tInt1 (tCons (tBM0 K "list" rPop tGt) tNil)) (gName 2))
    (tSeq (tIfS (tTest (tOp (rI0 fun i j => .bl (decide (j ≤ i))) (tVar 2) (tVar 1))) (tDrop (tBM K "list" rAppend tGt (tCons (tOp (rI CDivA fun i j => .int (i.fdiv j)) (tVar 2) (tVar 1)) tNil))) tNext)
    (tRet (tModN (tVar 2) (tVar 1))))) tNext)
  (tSeq (tAsg (tModN (tInt1 (tCons (tAddI (tMulI (tInt1 (tCons (tDGet (tVar 0) (tC (.str "mixed"))) tNil)) (tC (.int 69621))) (tC (.int k1))) tNil)) (tC (.int 2147483587))) (gName 3)) tDrawB2)
theorem rd_drawB {k1 : Int} {N : List Str} {vs : List V} {H : Hp} {Q : VK} {Ex : XK} (hN : N.length = 4) (h : lift K (GB cls fld) CdrawB vs H Q Ex) : tDrawB K k1 { nx := fun _ H' => Q .non H', rt := Q } (L2.start N vs) H := by
  obtain ⟨p, c, ads, ds, n, Qd, hk, ha, di, r, ⟨m, rfl, m1, m2, hq⟩, q⟩ := h
  obtain ⟨x, xs, rfl, e1, y, ys, rfl, e2, e3⟩ := r
  have e1 : x = .ref p := e1
  have e2 : y = .int m := e2
  have e3 : ys = [] := e3
  subst e1 e2 e3
  obtain ⟨ns, b, h1, h2, hl, b0, b1⟩ := di
  have pc : p ≠ c := ne_of h1 h2 (by intro z; cases z)
  have st : L2.start N [.ref p, .int m] = [some (.ref p), some (.int m), none, none] := by
    unfold L2.start
    rw [show N.length - ([V.ref p, V.int m] : List V).length = 2 by simp [hN]]
    rfl
  rw [st]
  have gg : ∀ {H : Hp} {b : Int}, H p = some (.dK (dgv c b)) → DGet H p (.str "great") (some (.ref c)) := fun h => by
    have := DGet.k (k := kGreat) h; rw [dgv_g] at this; exact this
  have gm : ∀ {H : Hp} {b : Int}, H p = some (.dK (dgv c b)) → DGet H p (.str "mixed") (some (.int b)) := fun h => by
    have := DGet.k (k := kMixed) h; rw [dgv_m] at this; exact this
  have m0 : m ≠ 0 := by omega
  refine ⟨.ref p, rfl, p, .ref c, rfl, gg h1, Nat.zero_le _, fun l hl0 => ?_⟩
  have lp : p ≠ l := ne_of_none h1 hl0
  have lc : c ≠ l := ne_of_none h2 hl0
  have f1 : upd H l (.lst []) p = some (.dK (dgv c b)) := by rw [upd_ne lp]; exact h1
  have f2 : upd H l (.lst []) c = some (.lst (ns.map V.int)) := by rw [upd_ne lc]; exact h2
  have f0 : ∀ x o, H x = some o → x ∉ [p, c] → upd H l (.lst []) x = some o := fun x o hx hn => by
    rw [upd_ne (ne_of_none hx hl0)]; exact hx
  refine ⟨.list (ns.map PyData.int), .list [], .lst (SqL.of f2) (dp_ints ns), .lst (SqL.of upd_same) .nil, shaped_ints ns, rfl, _, rfl, ?_⟩
  rw [eqv_ints_nil]
  cases hns : ns with
  | nil =>
    rw [hns] at f2
    rw [if_neg (show ¬ (!([] : List Int).isEmpty) = true from Bool.false_ne_true)]
    -- the mixed number
    have c1 : CMul b 69621 := .inr ⟨by omega, by omega⟩
    refine ⟨.ref p, rfl, p, .int b, rfl, gm f1, .inl ⟨b, rfl, b, 69621, rfl, rfl, c1, _, _, rfl, rfl, .inl ⟨_, rfl, _, 2147483587, rfl, rfl, (show (2147483587 : Int) ≠ 0 by decide), ?_⟩⟩⟩
    suffices key : ∀ z : Int, 0 ≤ z → z < 2147483587 → tDrawB2 { nx := fun _ H' => Q .non H', rt := Q } [some (.ref p), some (.int m), none, some (.int z)] (upd H l (.lst [])) by
      exact key _ (Int.fmod_nonneg_of_pos (b * 69621 + k1) (by decide)) (Int.fmod_lt_of_pos (b * 69621 + k1) (by decide))
    intro z z0 z1
    refine ⟨.int z, rfl, .ref p, rfl, p, _, rfl, DPut.k (k := kMixed) f1 (small1000 (by show 2 ≤ 1000; omega)), ?_⟩
    rw [dgv_put]
    refine ⟨.int z, rfl, .int z, rfl, z, z, rfl, rfl, .inl ⟨by omega, by omega⟩, .int z, rfl, 39373, z, rfl, rfl, .inl ⟨by omega, by omega⟩, _, _, rfl, rfl, .inl ⟨_, rfl, _, 2147483579, rfl, rfl, (show (2147483579 : Int) ≠ 0 by decide), ?_⟩⟩
    refine ⟨_, rfl, _, 64, rfl, rfl, ⟨by decide, by decide⟩, .int m, rfl, _, m, rfl, rfl, m0, ?_⟩
    refine q _ (.int (Int.fmod _ m)) n _ (fun x o hx hn => ?_) ⟨[], z, upd_same, ?_, Nat.zero_le _, z0, z1⟩ rfl (hq _ (Int.fmod_nonneg_of_pos _ (by omega)) (Int.fmod_lt_of_pos _ (by omega)))
    · rw [upd_ne fun w => hn (by show x ∈ [p, c]; simp [w])]; exact f0 x o hx hn
    · rw [upd_ne pc.symm]; exact f2
  | cons n0 ns0 =>
    rw [if_pos (show (!(n0 :: ns0).isEmpty) = true from rfl)]
    rw [hns] at f2 hl
    obtain ⟨ms, z, ez⟩ : ∃ ms z, n0 :: ns0 = ms ++ [z] := ⟨(n0 :: ns0).dropLast, (n0 :: ns0).getLast (List.cons_ne_nil _ _), (List.dropLast_concat_getLast _).symm⟩
    rw [ez] at f2 hl
    have em : (ms ++ [z]).map V.int = ms.map V.int ++ [V.int z] := by rw [List.map_append]; rfl
    rw [em] at f2
    have lm : ms.length ≤ 62 := by rw [List.length_append] at hl; simp at hl; omega
    refine ⟨.ref p, rfl, p, .ref c, rfl, gg f1, .inl ⟨rfl, _, SqL.of f2⟩, c, _, .int z, rfl, rfl, f2, by simp, ?_⟩
    rw [List.dropLast_concat]
    refine .inl ⟨z, rfl, ?_⟩
    have u1 : upd (upd H l (.lst [])) c (.lst (ms.map V.int)) p = some (.dK (dgv c b)) := by rw [upd_ne pc]; exact f1
    have u0 : ∀ (o' : HO) x o, H x = some o → x ∉ [p, c] → upd (upd H l (.lst [])) c o' x = some o := fun o' x o hx hn => by
      rw [upd_ne fun w => hn (by simp [w])]; exact f0 x o hx hn
    have fin : ∀ (H' : Hp) (ks : List Int), H' p = some (.dK (dgv c b)) → H' c = some (.lst (ks.map V.int)) → ks.length ≤ 63 → (∀ x o, H x = some o → x ∉ [p, c] → H' x = some o) → Q (.int (z.fmod m)) H' := fun H' ks g1 g2 g3 g4 =>
      q _ (.int (z.fmod m)) n _ g4 ⟨ks, b, g1, g2, g3, b0, b1⟩ rfl (hq _ (Int.fmod_nonneg_of_pos _ (by omega)) (Int.fmod_lt_of_pos _ (by omega)))
    refine ⟨.int z, rfl, .int m, rfl, z, m, rfl, rfl, _, rfl, ite2 (fun _ => ?_) (fun _ => ?_)⟩
    · refine ⟨.ref p, rfl, p, .ref c, rfl, gg u1, .inl ⟨rfl, _, SqL.of upd_same⟩, .int z, rfl, .int m, rfl, z, m, rfl, rfl, ⟨m0, m2⟩, c, _, _, rfl, rfl, upd_same, ?_, ?_⟩
      · rw [List.length_map]; exact small1000 (by omega)
      · refine ⟨.int z, rfl, .int m, rfl, z, m, rfl, rfl, m0, ?_⟩
        have um : (upd (upd (upd H l (.lst [])) c (.lst (ms.map V.int))) c (.lst (ms.map V.int ++ [V.int (z.fdiv m)]))) = upd (upd H l (.lst [])) c (.lst (ms.map V.int ++ [V.int (z.fdiv m)])) := upd_upd
        rw [um]
        refine fin _ (ms ++ [z.fdiv m]) ?_ ?_ ?_ (u0 _)
        · rw [upd_ne pc]; exact f1
        · rw [upd_same, List.map_append]; rfl
        · rw [List.length_append]; simp; omega
    · refine ⟨.int z, rfl, .int m, rfl, z, m, rfl, rfl, m0, ?_⟩
      exact fin _ ms u1 upd_same (by omega) (u0 _)
end
end L3
namespace L3
open PySem PySem.Spec PyProof.Rows L2
section
variable {K : PySem.W.Frag} {cls : Nat → Addr} {fld : Nat → List Str}
abbrev tCut (K : PySem.W.Frag) : TE := tSl (rSlL K) (tVar 0) tNoPart (tPart (tC (.int 63)))
def tDeckB (K : PySem.W.Frag) (c0 k1 : Int) : TS :=
  tSeq (tAsg (tC (.int c0)) (gName 1))
  (tSeq (tFor (iList K (tCut K)) (gName 2) (tAsg (tModN (tInt1 (tCons (tAddI (tAddI (tMulI (tVar 1) (tC (.int 48271))) (tModN (tInt1 (tCons (tVar 2) tNil)) (tC (.int 2147483629)))) (tC (.int k1))) tNil)) (tC (.int 2147483587))) (gName 1)))
  (tRet (tDisp [(tC (.str "great"), tRevL K (tLc (iList K (tCut K)) (gName 2) (tTest (tOp (rI0 fun i j => .bl (decide (j ≤ i))) (tVar 2) (tOp (rI CPow fun i j => .int (i ^ j.toNat)) (tC (.int 10)) (tC (.int 18))))) (tVar 2) [2])), (tC (.str "mixed"), tVar 1)])))
def spDeckG (K : PySem.W.Frag) : Sp := fun vs H Q _ => ∃ (a : Addr) (ns : List Int), vs = [.ref a] ∧ SqL K H a (ns.map V.int) ∧ ns.length ≤ 63 ∧
  ∀ (p c : Addr) (H' : Hp), Same H H' → DkG p c H' → H p = none → H c = none → Q (.ref p) H'
theorem merge_dgv {q : Addr} {b : Int} : mergeK [] (dgv q b) = dgv q b := by
  show putK (putK [] kGreat (.ref q)) kMixed (.int b) = _
  have e1 : putK ([] : List (Key × V)) kGreat (.ref q) = [(kGreat, .ref q)] := putK_new _ rfl
  have e2 : putK [(kGreat, V.ref q)] kMixed (.int b) = [(kGreat, .ref q), (kMixed, .int b)] := putK_new _ ((valV_neg k_gm).trans rfl)
  rw [e1, e2]
  all_goals rfl
theorem sq_same {H H' : Hp} {a : Addr} {xs : List V} (e : Same H H') (h : SqL K H a xs) : SqL K H' a xs := by
  rcases h with (h | ⟨o, h⟩) | h
  · exact .inl (.inl (e _ _ h))
  · exact .inl (.inr ⟨o, e _ _ h⟩)
  · exact .inr h
theorem rd_deckB {c0 k1 : Int} {N : List Str} {vs : List V} {H : Hp} {Q : VK} {Ex : XK} (hN : N.length = 3) (hc0 : 0 ≤ c0 ∧ c0 < 2147483587) (h : spDeckG K vs H Q Ex) : tDeckB K c0 k1 { nx := fun _ H' => Q .non H', rt := Q } (L2.start N vs) H := by
  obtain ⟨a, ns, rfl, hS, hl, q⟩ := h
  have st : L2.start N [.ref a] = [some (.ref a), none, none] := by
    unfold L2.start
    rw [show N.length - ([V.ref a] : List V).length = 2 by simp [hN]]
    rfl
  rw [st]
  have ecut : cutV (ns.map V.int) none (some 63) = ns.map V.int := by
    unfold cutV
    rw [HT.sIx_none, show HT.sIx (ns.map V.int).length (ns.map V.int).length (some 63) = min 63 (ns.map V.int).length from HT.sIx_nat _ _ 63, List.length_map, Nat.sub_zero, List.drop_zero]
    exact List.take_of_length_le (by rw [List.length_map]; omega)
  refine ⟨.ref a, rfl, 63, rfl, a, _, rfl, hS, fun l hl0 => ?_⟩
  rw [ecut]
  have s2 := same_new (o := .lst (ns.map V.int)) hl0
  have hlst : upd H l (.lst (ns.map V.int)) l = some (.lst (ns.map V.int)) := upd_same
  refine ⟨l, rfl, ⟨_, SqL.of hlst⟩, for_list (K := K) (a := l) (xs := ns.map V.int) (fun i σ H3 => ∃ (b : Int) (x : Option V), σ = [some (.ref a), some (.int b), x] ∧ H3 = upd H l (.lst (ns.map V.int)) ∧ 0 ≤ b ∧ b < 2147483587)
    ⟨c0, none, rfl, rfl, hc0⟩ (fun i σ H3 _ ⟨_, _, _, e, _⟩ => by rw [e]; exact SqL.of hlst) ?_ ?_⟩
  · rintro i x σ H3 hx ⟨b, y, rfl, rfl, b0, b1⟩
    obtain ⟨z, rfl⟩ : ∃ z, x = V.int z := by
      rw [List.getElem?_map] at hx
      cases e : ns[i]? with
      | none => rw [e] at hx; cases hx
      | some z => rw [e] at hx; exact ⟨z, (Option.some.inj hx).symm⟩
    refine ⟨.int b, rfl, b, 48271, rfl, rfl, .inl ⟨by omega, by omega⟩, .int z, rfl, .inl ⟨z, rfl, z, 2147483629, rfl, rfl, (show (2147483629 : Int) ≠ 0 by decide), _, _, rfl, rfl, _, _, rfl, rfl, .inl ⟨_, rfl, _, 2147483587, rfl, rfl, (show (2147483587 : Int) ≠ 0 by decide), ?_⟩⟩⟩
    exact ⟨_, _, rfl, rfl, Int.fmod_nonneg_of_pos _ (by decide), Int.fmod_lt_of_pos _ (by decide)⟩
  · rintro σ H3 ⟨b, y, rfl, rfl, b0, b1⟩
    intro p hp
    have sp := s2.trans (same_new (o := .dK []) hp)
    -- the slice again
    refine ⟨.ref a, rfl, 63, rfl, a, _, rfl, sq_same sp hS, fun l2 hl2 => ?_⟩
    rw [ecut]
    have h2 : upd (upd (upd H l (.lst (ns.map V.int))) p (.dK [])) l2 (.lst (ns.map V.int)) l2 = some (.lst (ns.map V.int)) := upd_same
    have sl := sp.trans (same_new (o := .lst (ns.map V.int)) hl2)
    have pl2 : p ≠ l2 := ne_of_none (H := upd _ p (.dK [])) upd_same hl2
    refine ⟨l2, rfl, ⟨_, SqL.of h2⟩, fun D hD => lc_list (K := K) (a := l2) (xs := ns.map V.int) (fun i H5 => ∃ ms : List Int, ms.length ≤ i ∧ H5 = upd (upd (upd (upd H l (.lst (ns.map V.int))) p (.dK [])) l2 (.lst (ns.map V.int))) D (.lst (ms.map V.int)))
      ⟨[], Nat.le_refl _, rfl⟩ (fun i H5 _ ⟨ms, _, e⟩ => by rw [e]; refine SqL.of ?_; rw [upd_ne (ne_of_none h2 hD)]; exact h2) ?_ ?_⟩
    · rintro i x H5 hx ⟨ms, hm, rfl⟩
      have il : i < ns.length := by
        have := (List.getElem?_eq_some_iff.mp hx).1
        rwa [List.length_map] at this
      obtain ⟨z, rfl⟩ : ∃ z, x = V.int z := by
        rw [List.getElem?_map] at hx
        cases e : ns[i]? with
        | none => rw [e] at hx; cases hx
        | some z => rw [e] at hx; exact ⟨z, (Option.some.inj hx).symm⟩
      refine ⟨rfl, .int z, rfl, 10, 18, rfl, rfl, ⟨by decide, by decide, by decide⟩, _, _, rfl, rfl, _, rfl, ite2 (fun _ => ?_) (fun _ => ?_)⟩
      · refine ⟨.int z, rfl, ms.map V.int, upd_same, ?_, ms ++ [z], by rw [List.length_append]; simp; omega, ?_⟩
        · rw [List.length_map]; exact small1000 (by omega)
        · rw [upd_upd, List.map_append]; rfl
      · exact ⟨ms, by omega, rfl⟩
    · rintro H5 ⟨ms, hm, rfl⟩
      rw [List.length_map] at hm
      have hDl : upd (upd (upd (upd H l (.lst (ns.map V.int))) p (.dK [])) l2 (.lst (ns.map V.int))) D (.lst (ms.map V.int)) D = some (.lst (ms.map V.int)) := upd_same
      have sD := sl.trans (same_new (o := .lst (ms.map V.int)) hD)
      have pD : p ≠ D := ne_of_none (H := upd (upd _ p (.dK [])) l2 _) (by rw [upd_ne pl2]; exact upd_same) hD
      refine ⟨D, _, rfl, SqL.of hDl, fun c hc => ?_⟩
      have s3 := sD.trans (same_new (o := .lst (ms.map V.int).reverse) hc)
      have pc : p ≠ c := ne_of_none (H := upd (upd (upd _ p (.dK [])) l2 _) D _) (by rw [upd_ne pD, upd_ne pl2]; exact upd_same) hc
      refine ⟨.int b, rfl, by rw [upd_ne pc, upd_ne pD, upd_ne pl2]; exact upd_same, dgv c b, rfl, (show 2 ≤ 15 by omega), ?_⟩
      rw [merge_dgv]
      refine q p c _ (fun x o hx => ?_) ⟨ms.reverse, b, upd_same, ?_, by rw [List.length_reverse]; omega, b0, b1⟩ (s2.free hp) (sD.free hc)
      · rw [upd_ne (ne_of_none (s2 _ _ hx) hp)]
        exact s3 x o hx
      · rw [upd_ne pc.symm, upd_same, List.map_reverse]
theorem rd_lawB {rest : TS} {wr : WS} {N : List Str} {vs : List V} {H : Hp} {Q : VK} {Ex E1 : XK} (hN : 2 ≤ N.length) (hs : ∀ p c, SimS K (GB cls fld p c) rest wr)
    (hw : wr ⟨fun _ => False, fun d _ => d = .bl true, fun _ => False, fun _ => False⟩ ⟨none :: some (.sh .deck) :: List.replicate (N.length - 2) none, 0⟩)
    (h : spLaw K vs H Q Ex) : tSeq (tAsg (tCall (spDeckG K) [] E1 (tCons (tVar 0) tNil)) (gName 1)) rest { nx := fun _ H' => Q .non H', rt := Q } (L2.start N vs) H := by
  obtain ⟨a, ns, rfl, hS, hl, q⟩ := h
  obtain ⟨L, hL⟩ : ∃ L, N.length = L + 2 := ⟨N.length - 2, by omega⟩
  have st : L2.start N [.ref a] = some (.ref a) :: none :: List.replicate L none := by
    unfold L2.start
    rw [show N.length - ([V.ref a] : List V).length = L + 1 by simp [hL]]
    rfl
  rw [show N.length - 2 = L by omega] at hw
  rw [st]
  refine ⟨.ref a, rfl, a, ns, rfl, hS, hl, fun p c H1 s1 dk hp hc => ?_⟩
  have S : SR K (GB cls fld p c) ⟨H1, [p, c], [], none⟩ (fun _ => 0) [p, c] (some (.ref a) :: some (.ref p) :: List.replicate L none) ⟨none :: some (.sh .deck) :: List.replicate L none, 0⟩ H1 := by
    have no : ∀ (i : Nat) (x : SV), (none :: some (.sh .deck) :: List.replicate L none : List (Option SV))[i]? = some (some x) → i = 1 ∧ x = .sh .deck := fun i x e => by
      match i with
      | 0 => cases e
      | 1 => exact ⟨rfl, by injection e with e; injection e with e; exact e.symm⟩
      | i + 2 =>
        have e : (List.replicate L (none : Option SV))[i]? = some (some x) := e
        rw [List.getElem?_replicate] at e
        split at e <;> cases e
    refine ⟨by simp, fun i d e => ?_, fun i d e => ?_, fun i j ⟨d, e⟩ _ _ => ?_, fun a z => z, fun a z => z, fun a z => ?_, fun b o e _ => e, dk, fun p hp => (by cases hp), fun x hx => (by cases hx)⟩
    · obtain ⟨rfl, e2⟩ := no i _ e
      cases e2
      exact ⟨_, rfl, rfl⟩
    · obtain ⟨_, e2⟩ := no i _ e
      cases e2
    · obtain ⟨_, e2⟩ := no i _ e
      cases e2
    · exact (GB cls fld p c).dal 0 H1 dk a z
  exact hs p c _ _ _ _ _ _ S _ hw _ ⟨fun _ _ _ _ _ _ z => z.elim, fun _ _ _ _ _ _ z => z.elim, fun _ _ _ _ _ _ z => z.elim, fun v d n H' rv _ _ z => by
    have z : d = .bl true := z
    subst z
    have rv : v = .bl true := rv
    subst rv
    exact q H'⟩
end
end L3
namespace L3
open PySem PySem.Spec PyProof.Rows L2
theorem cut_to (ds : List D) (k : Nat) : cutD ds none (some (k : Int)) = ds.take k := by
  unfold cutD
  rw [HT.sIx_none, HT.sIx_nat, List.drop_zero, Nat.sub_zero]
  rcases Nat.le_total k ds.length with h | h
  · rw [Nat.min_eq_left h]
  · rw [Nat.min_eq_right h, List.take_of_length_le h, List.take_of_length_le (Nat.le_refl _)]
theorem cut_from (ds : List D) (k : Nat) : cutD ds (some (k : Int)) none = ds.drop k := by
  unfold cutD
  rw [HT.sIx_none, HT.sIx_nat]
  rcases Nat.le_total k ds.length with h | h
  · rw [Nat.min_eq_left h]
    exact List.take_of_length_le (by rw [List.length_drop]; omega)
  · rw [Nat.min_eq_right h, List.drop_of_length_le (Nat.le_refl _), List.drop_of_length_le h]; simp
theorem cut_mid (ds : List D) (j k : Nat) : cutD ds (some (j : Int)) (some (k : Int)) = (ds.take k).drop j := by
  unfold cutD
  rw [HT.sIx_nat, HT.sIx_nat]
  apply List.ext_getElem?
  intro i
  rw [List.getElem?_take, List.getElem?_drop, List.getElem?_drop, List.getElem?_take]
  by_cases a : j ≤ ds.length
  · rw [Nat.min_eq_left a]
    by_cases b : k ≤ ds.length
    · rw [Nat.min_eq_left b]
      by_cases c : j + i < k
      · rw [if_pos (by omega), if_pos c]
      · rw [if_neg (by omega), if_neg c]
    · rw [Nat.min_eq_right (by omega)]
      by_cases c : j + i < ds.length
      · rw [if_pos (by omega), if_pos (by omega)]
      · rw [if_neg (by omega), List.getElem?_eq_none (by omega)]; simp
  · rw [List.getElem?_eq_none (show ds.length ≤ j + i by omega), if_neg (by omega)]; simp
theorem cut_all (ds : List D) : cutD ds none none = ds := by
  unfold cutD
  rw [HT.sIx_none, HT.sIx_none]
  exact List.take_of_length_le (Nat.le_refl _)
/-- plain data without truth values, at most h deep -/
inductive Pl : Nat → D → Prop
  | int (h : Nat) (i : Int) : Pl h (.int i)
  | str (h : Nat) (x : Str) (hx : PyData.canLay0 (.str x) = true) : Pl h (.str x)
  | non (h : Nat) : Pl h .non
  | lst {h : Nat} {ds : List D} : (∀ d, d ∈ ds → Pl h d) → Pl (h + 1) (.lst ds)
  | tup {h : Nat} {ds : List D} : (∀ d, d ∈ ds → Pl h d) → Pl (h + 1) (.tup ds)
theorem Pl.mono {h k : Nat} {d : D} (p : Pl h d) (hk : h ≤ k) : Pl k d := by
  induction p generalizing k with
  | int h i => exact .int _ _
  | str h i hx => exact .str _ _ hx
  | non h => exact .non _
  | lst _ ih => 
    cases k with
    | zero => omega
    | succ k => exact .lst fun d hd => ih d hd (by omega)
  | tup _ ih => 
    cases k with
    | zero => omega
    | succ k => exact .tup fun d hd => ih d hd (by omega)
theorem pys_ex {h : Nat} : ∀ {ds : List D}, (∀ d, d ∈ ds → ∃ p, d.py = some p ∧ p.canLay0 = true ∧ p.depth ≤ h) → ∃ ps, D.pys ds = some ps ∧ PyData.canLayAll0 ps = true ∧ PyData.depthAll ps ≤ h
  | [], _ => ⟨[], by simp [D.pys], rfl, Nat.zero_le _⟩
  | d :: ds, hd => by
    obtain ⟨p, e1, e2, e3⟩ := hd d List.mem_cons_self
    obtain ⟨ps, f1, f2, f3⟩ := pys_ex (ds := ds) fun d' h' => hd d' (List.mem_cons_of_mem _ h')
    refine ⟨p :: ps, by simp [D.pys, e1, f1], by simp [PyData.canLayAll0, e2, f2], ?_⟩
    simp only [PyData.depthAll]
    omega
theorem Pl.py {h : Nat} {d : D} (p : Pl h d) : ∃ p, d.py = some p ∧ p.canLay0 = true ∧ p.depth ≤ h := by
  induction p with
  | int h i => exact ⟨_, py_int i, rfl, Nat.zero_le _⟩
  | str h i hx => exact ⟨_, py_str i, hx, Nat.zero_le _⟩
  | non h => exact ⟨_, py_non, rfl, Nat.zero_le _⟩
  | lst _ ih =>
    obtain ⟨ps, f1, f2, f3⟩ := pys_ex ih
    exact ⟨.list ps, by simp [D.py, f1], by simpa [PyData.canLay0] using f2, Nat.succ_le_succ f3⟩
  | tup _ ih =>
    obtain ⟨ps, f1, f2, f3⟩ := pys_ex ih
    exact ⟨.tuple ps, by simp [D.py, f1], by simpa [PyData.canLay0] using f2, Nat.succ_le_succ f3⟩
theorem eqvAll_iff {ds : List D} (ih : ∀ d, d ∈ ds → ∀ (k : Nat) (e : D) (p q : PyData), Pl k e → d.py = some p → e.py = some q → (PyData.eqv p q = true ↔ d = e)) : ∀ {es : List D} {ps qs : List PyData} {k : Nat}, (∀ e, e ∈ es → Pl k e) → D.pys ds = some ps → D.pys es = some qs → (PyData.eqvAll ps qs = true ↔ ds = es) := by
  induction ds with
  | nil =>
    intro es ps qs k he e1 e2
    have e1 : ps = [] := by simpa [D.pys] using e1.symm
    subst e1
    cases es with
    | nil =>
      have e2 : qs = [] := by simpa [D.pys] using e2.symm
      subst e2
      simp [PyData.eqvAll]
    | cons e es =>
      simp only [D.pys] at e2
      obtain ⟨q, q1, q2⟩ := Option.bind_eq_some_iff.mp e2
      obtain ⟨qs', q3, rfl⟩ := Option.map_eq_some_iff.mp q2
      simp [PyData.eqvAll]
  | cons d ds ih2 =>
    intro es ps qs k he e1 e2
    simp only [D.pys] at e1
    obtain ⟨p, p1, p2⟩ := Option.bind_eq_some_iff.mp e1
    obtain ⟨ps', p3, rfl⟩ := Option.map_eq_some_iff.mp p2
    cases es with
    | nil =>
      have e2 : qs = [] := by simpa [D.pys] using e2.symm
      subst e2
      simp [PyData.eqvAll]
    | cons e es =>
      simp only [D.pys] at e2
      obtain ⟨q, q1, q2⟩ := Option.bind_eq_some_iff.mp e2
      obtain ⟨qs', q3, rfl⟩ := Option.map_eq_some_iff.mp q2
      have a := ih d List.mem_cons_self k e p q (he e List.mem_cons_self) p1 q1
      have b := ih2 (fun d' h' => ih d' (List.mem_cons_of_mem _ h')) (fun e' h' => he e' (List.mem_cons_of_mem _ h')) p3 q3
      simp only [PyData.eqvAll, Bool.and_eq_true, a, b, List.cons.injEq]
theorem Pl.eqv {h : Nat} {d : D} (pd : Pl h d) : ∀ (k : Nat) (e : D) (p q : PyData), Pl k e → d.py = some p → e.py = some q → (PyData.eqv p q = true ↔ d = e) := by
  induction pd with
  | int h i =>
    intro k e p q pe e1 e2
    rw [py_int] at e1
    cases e1
    cases pe with
    | int _ j => rw [py_int] at e2; cases e2; simp [PyData.eqv]
    | str _ j _ => rw [py_str] at e2; cases e2; simp [PyData.eqv]
    | non => rw [py_non] at e2; cases e2; simp [PyData.eqv]
    | lst _ => simp only [D.py] at e2; obtain ⟨ps, _, rfl⟩ := Option.map_eq_some_iff.mp e2; simp [PyData.eqv]
    | tup _ => simp only [D.py] at e2; obtain ⟨ps, _, rfl⟩ := Option.map_eq_some_iff.mp e2; simp [PyData.eqv]
  | str h i hx =>
    intro k e p q pe e1 e2
    rw [py_str] at e1
    cases e1
    cases pe with
    | int _ j => rw [py_int] at e2; cases e2; simp [PyData.eqv]
    | str _ j _ => rw [py_str] at e2; cases e2; simp [PyData.eqv]
    | non => rw [py_non] at e2; cases e2; simp [PyData.eqv]
    | lst _ => simp only [D.py] at e2; obtain ⟨ps, _, rfl⟩ := Option.map_eq_some_iff.mp e2; simp [PyData.eqv]
    | tup _ => simp only [D.py] at e2; obtain ⟨ps, _, rfl⟩ := Option.map_eq_some_iff.mp e2; simp [PyData.eqv]
  | non h =>
    intro k e p q pe e1 e2
    rw [py_non] at e1
    cases e1
    cases pe with
    | int _ j => rw [py_int] at e2; cases e2; simp [PyData.eqv]
    | str _ j _ => rw [py_str] at e2; cases e2; simp [PyData.eqv]
    | non => rw [py_non] at e2; cases e2; simp [PyData.eqv]
    | lst _ => simp only [D.py] at e2; obtain ⟨ps, _, rfl⟩ := Option.map_eq_some_iff.mp e2; simp [PyData.eqv]
    | tup _ => simp only [D.py] at e2; obtain ⟨ps, _, rfl⟩ := Option.map_eq_some_iff.mp e2; simp [PyData.eqv]
  | @lst h ds hd ih =>
    intro k e p q pe e1 e2
    simp only [D.py] at e1
    obtain ⟨ps, f1, rfl⟩ := Option.map_eq_some_iff.mp e1
    cases pe with
    | int _ j => rw [py_int] at e2; cases e2; simp [PyData.eqv]
    | str _ j _ => rw [py_str] at e2; cases e2; simp [PyData.eqv]
    | non => rw [py_non] at e2; cases e2; simp [PyData.eqv]
    | lst he =>
      simp only [D.py] at e2
      obtain ⟨qs, f2, rfl⟩ := Option.map_eq_some_iff.mp e2
      simp only [PyData.eqv, D.lst.injEq]
      exact eqvAll_iff ih he f1 f2
    | tup _ => simp only [D.py] at e2; obtain ⟨ps, _, rfl⟩ := Option.map_eq_some_iff.mp e2; simp [PyData.eqv]
  | @tup h ds hd ih =>
    intro k e p q pe e1 e2
    simp only [D.py] at e1
    obtain ⟨ps, f1, rfl⟩ := Option.map_eq_some_iff.mp e1
    cases pe with
    | int _ j => rw [py_int] at e2; cases e2; simp [PyData.eqv]
    | str _ j _ => rw [py_str] at e2; cases e2; simp [PyData.eqv]
    | non => rw [py_non] at e2; cases e2; simp [PyData.eqv]
    | lst _ => simp only [D.py] at e2; obtain ⟨ps, _, rfl⟩ := Option.map_eq_some_iff.mp e2; simp [PyData.eqv]
    | tup he =>
      simp only [D.py] at e2
      obtain ⟨qs, f2, rfl⟩ := Option.map_eq_some_iff.mp e2
      simp only [PyData.eqv, D.tup.injEq]
      exact eqvAll_iff ih he f1 f2
/-- == of plain data -/
theorem eqD_pl {neg : Bool} {d e : D} (hd : Pl 32 d) (he : Pl 32 e) {Q : RD → Prop} (q1 : d = e → Q (.sh (.bl (!neg)))) (q2 : d ≠ e → Q (.sh (.bl neg))) : eqD neg d e Q := by
  obtain ⟨p, e1, c1, d1⟩ := hd.py
  obtain ⟨q, e2, c2, d2⟩ := he.py
  have iff := hd.eqv 32 e p q he e1 e2
  refine ⟨p, q, e1, e2, ?_, ?_, ?_⟩
  · unfold SeqAt.shaped; rw [c1, decide_eq_true (by omega)]; rfl
  · unfold SeqAt.shaped; rw [c2, decide_eq_true (by omega)]; rfl
  · by_cases z : d = e
    · rw [iff.mpr z]
      have := q1 z
      cases neg <;> exact this
    · have f : PyData.eqv p q = false := by
        cases y : PyData.eqv p q with
        | false => rfl
        | true => exact (z (iff.mp y)).elim
      rw [f]
      have := q2 z
      cases neg <;> exact this
theorem Pl.ints {h : Nat} (l : List Int) : Pl (h + 1) (.lst (l.map D.int)) := .lst fun d hd => by
  obtain ⟨i, _, rfl⟩ := List.mem_map.mp hd
  exact .int _ _
theorem Pl.tints {h : Nat} (l : List Int) : Pl (h + 1) (.tup (l.map D.int)) := .tup fun d hd => by
  obtain ⟨i, _, rfl⟩ := List.mem_map.mp hd
  exact .int _ _
theorem Pl.map {α : Type} {f : α → D} {h : Nat} {l : List α} (hf : ∀ a ∈ l, Pl h (f a)) : Pl (h + 1) (.lst (l.map f)) := .lst fun d hd => by
  obtain ⟨i, hi, rfl⟩ := List.mem_map.mp hd
  exact hf i hi
theorem Pl.tmap {α : Type} {f : α → D} {h : Nat} {l : List α} (hf : ∀ a ∈ l, Pl h (f a)) : Pl (h + 1) (.tup (l.map f)) := .tup fun d hd => by
  obtain ⟨i, hi, rfl⟩ := List.mem_map.mp hd
  exact hf i hi
theorem Pl.nil {h : Nat} : Pl (h + 1) (.lst []) := .lst fun d hd => by cases hd
theorem Pl.tnil {h : Nat} : Pl (h + 1) (.tup []) := .tup fun d hd => by cases hd
theorem ints_inj {a b : List Int} : a.map D.int = b.map D.int ↔ a = b := by
  constructor
  · intro h
    induction a generalizing b with
    | nil => cases b with
      | nil => rfl
      | cons _ _ => simp at h
    | cons x a ih => cases b with
      | nil => simp at h
      | cons y b =>
        simp only [List.map_cons, List.cons.injEq, D.int.injEq] at h
        rw [h.1, ih h.2]
  · rintro rfl; rfl
theorem cut_from1 (ds : List D) (k : Nat) : cutD ds (some ((k : Int) + 1)) none = ds.drop (k + 1) := cut_from ds (k + 1)
theorem cut_tl (ds : List D) : cutD ds (some 1) none = ds.drop 1 := cut_from ds 1
theorem cut_to1 (ds : List D) (k : Nat) : cutD ds none (some ((k : Int) + 1)) = ds.take (k + 1) := cut_to ds (k + 1)
theorem atI_zero {α : Type} (x : α) (xs : List α) : L2.atI (x :: xs) 0 = some x := L2.atI_nat (j := 0) rfl
theorem atI_getLast {α : Type} (xs : List α) : L2.atI xs (-1) = xs.getLast? := by
  unfold L2.atI L2.ixN
  cases xs with
  | nil => simp
  | cons x xs =>
    have e1 : ¬ (0 : Int) ≤ -1 := by decide
    have e2 : -(((x :: xs).length : Nat) : Int) ≤ -1 := by simp; omega
    have e3 : (-1 + (((x :: xs).length : Nat) : Int)).toNat = xs.length := by simp; omega
    rw [if_neg e1, if_pos e2, e3, List.getLast?_eq_getElem?]
    simp
theorem atI_snoc {α : Type} (x : α) (xs : List α) : L2.atI (xs ++ [x]) (-1) = some x := by rw [atI_getLast]; simp
end L3
namespace L3
open PySem PySem.Spec PyProof.Rows L2
section
variable {X : Cx} {G : Gx} {K : PySem.W.Frag} {e1 e2 : Expr} {t1 t2 : TE} {w1 w2 : WE} {x y' : Str} {px py' pt pt2 pos : Pos}
theorem sim_parC2 {ta tb : TE} {wa wb : WE} {i j : Nat} {oi oj : Bool} (ha : ∀ E, SimE K G E ta wa) (hb : ∀ E, SimE K G E tb wb) : SimS K G (tAsg (tTup (tCons ta (tCons tb tNil))) (gTup K 2 (gCons (gName i) (gCons (gName j) gNil)))) (wPar2 i oi j oj wa wb) := fun E am M σ δ H S D3 q De R => by
  refine ha E am M σ δ H S _ q _ fun x rx δ1 H1 S1 e1 o1 v1 q => ?_
  by_cases k1 : okp oi rx
  · obtain ⟨M1, i1, T1, p1, n1⟩ := v1.pv S1 k1
    obtain ⟨l1, G1, b1⟩ := p1.ghost T1
    refine hb (E.add l1) am M1 σ δ1 H1 G1 _ q _ fun y ry δ2 H2 S2 e2 o2 v2 ⟨_, k2, q⟩ => ?_
    obtain ⟨M2, i2, T2, p2, n2⟩ := v2.pv S2 k2
    have q1 := b1 M2 δ2 H2 T2 e2 o2 i2
    obtain ⟨am1, U1, f1⟩ := PV.put (i := i) T2.drop q1 (okp_ni k1)
    have q2 := f1 y oj ry.d (fun z1 z2 e => by
      subst z1 z2
      obtain ⟨p, e', hp⟩ := p1.ref
      exact n2 rfl p (by rw [e, e']) hp) p2.of_add
    obtain ⟨am2, U2, _⟩ := PV.put (i := j) U1 q2 (okp_ni k2)
    exact ⟨(by decide : 2 ≤ sizeLine), fun p hp => ⟨p, [x, y], rfl, .inl (.inl upd_same), rfl, x, [y], rfl, y, [], rfl, rfl, R.nx _ _ _ _ _ (U2.grow (same_new hp)) q⟩⟩
  · refine hb E am M σ δ1 H1 S1 _ q _ fun y ry δ2 H2 S2 e2 o2 v2 ⟨k, _⟩ => (k1 k).elim
theorem ds_parC2 (K : PySem.W.Frag) (i' : Nat) (oi : Bool) (j : Nat) (oj : Bool) {kt k2} (hc : X.calm = true) (hN : X.N.Nodup) (h1 : DE X G e1 t1 w1) (h2 : DE X G e2 t2 w2) (hi : X.N[i']? = some x := by rfl) (hj : X.N[j]? = some y' := by rfl)
    (hx : Loc X.env.scope x := by first | exact Or.inl rfl | exact Or.inr rfl) (hy : Loc X.env.scope y' := by first | exact Or.inl rfl | exact Or.inr rfl) (hfx : X.fn x = true ∨ X.env.scope.names.lookup x = some .local := by first | exact .inl rfl | exact .inr rfl) (hfy : X.fn y' = true ∨ X.env.scope.names.lookup y' = some .local := by first | exact .inl rfl | exact .inr rfl)
    (hst : starEach [e1, e2] X.env = (false, eval e1 X.env) :: starEach [e2] X.env := by rfl) (hst2 : starEach [e2] X.env = (false, eval e2 X.env) :: starEach [] X.env := by rfl)
    (hw : swappedStores [.Tuple [.Name x px, .Name y' py'] kt pt] (.Tuple [e1, e2] k2 pt2) X.env = pure none := by rfl)
    (hs : swapsWithSole [.Tuple [.Name x px, .Name y' py'] kt pt] (.Tuple [e1, e2] k2 pt2) pos.line X.env = pure false := by rfl)
    (h3 : (assignEach [.Tuple [.Name x px, .Name y' py'] kt pt] X.env).map (·.2) = [assign (.Tuple [.Name x px, .Name y' py'] kt pt) X.env] := by rfl)
    (hs1 : (assignEach [.Name x px, .Name y' py'] X.env).map (·.2) = assign (.Name x px) X.env :: (assignEach [.Name y' py'] X.env).map (·.2) := by rfl) (hs2 : (assignEach [.Name y' py'] X.env).map (·.2) = assign (.Name y' py') X.env :: (assignEach [] X.env).map (·.2) := by rfl)
    (hn : (assignEach [.Name x px, .Name y' py'] X.env).length = 2 := by rfl) (hst' : (assignEach [.Name x px, .Name y' py'] X.env).findIdx? (·.1) = none := by rfl) (hK : X.K = K := by rfl) :
    DS X G (.Assign [.Tuple [.Name x px, .Name y' py'] kt pt] (.Tuple [e1, e2] k2 pt2) pos) (tAsg (tTup (tCons t1 (tCons t2 tNil))) (gTup K 2 (gCons (gName i') (gCons (gName j) gNil)))) (wPar2 i' oi j oj w1 w2) := by
  subst hK
  exact ⟨ps_asg (pe_tup (pa_cons h1.pe (pa_cons h2.pe pa_nil hst2) hst)) (pg_tup hc (pgs_cons (pg_name hN hi hx hfx) (pgs_cons (pg_name hN hj hy hfy) pgs_nil hs2) hs1) hn hst') hs hw h3, sim_parC2 h1.sim h2.sim⟩
end
end L3
namespace L3
open PySem PySem.Spec PyProof.Rows L2
section
variable {X : Cx} {G : Gx} {K : PySem.W.Frag} {E : Ent} {te ti : TE} {we wi wo : WE} {e i o : Expr} {pos apos : Pos}
/-- never reached -/
@[simp] def wWall : WS := fun _ _ => False
theorem ds_wall {st : Stmt} : DS X G st (fun _ _ _ => False) wWall := ⟨⟨fun _ _ _ _ _ _ h => h.elim⟩, fun E am M σ δ H S D3 q De R => q.elim⟩
@[simp] def wSetIx (k : Nat) (wv wi : WE) : WS := fun De δ => wv δ fun r δ1 => ¬ r.bor ∧ (∃ ds0, ownL δ1 k ds0) ∧ wi δ1 fun s δ2 => ∃ ds, ownL δ2 k ds ∧ isI s.d fun z => ∃ j, ixN ds.length z = some j ∧ De.nx ⟨δ2.sl.set k (some (.ow (.lst (ds.set j r.d)))), δ2.n⟩
theorem sim_setIx {k : Nat} (h : ∀ E, SimE K G E te we) (h' : ∀ E, SimE K G E ti wi) : SimS K G (tAsg te (gSub (tVar k) ti rSetL)) (wSetIx k we wi) := fun E am M σ δ H S D3 q De R => by
  refine h E am M σ δ H S _ q _ fun x r δ1 H1 S1 e1 o1 rv ⟨nb, ⟨ds0, h0⟩, q⟩ => ?_
  obtain ⟨a1, _⟩ := S1.ow k _ h0
  refine ⟨_, a1, ?_⟩
  refine h' E am M σ δ1 H1 S1 _ q _ fun z s δ2 H2 S2 e2 o2 sv ⟨ds, h1, q⟩ => ?_
  obtain ⟨b1, b2, b3, b4, xs, b5, b6⟩ := S2.ow k _ h1
  obtain ⟨zi, es, rfl, j, hj, q⟩ := isI_of S2 sv.k q
  have rr := (rv.k.later (δ2 := δ2) S1 e2 (fun b => (nb b).elim)).rep nb
  refine ⟨am k, xs, zi, j, rfl, rfl, b5, by rw [b6.length]; exact hj, R.nx am M _ _ _ (S2.mut (d' := .lst (ds.set j r.d)) h1 ⟨xs.set j x, upd_same, ?_⟩ rfl) q⟩
  rw [mask_upd b2]
  exact b6.set j rr
theorem ds_setIx (k : Nat) {x : Str} {px pos2 : Pos} (he : DE X G e te we) (hx : PE X (.Name x px) (tVar k)) (hi : DE X G i ti wi) (ha : ∀ v, assign (.Subscript (.Name x px) i pos2) X.env v = (do
      let ov ← holding [v] (eval (.Name x px) X.env)
      let iv ← holding [v, ov] (eval i X.env)
      standAt pos2
      holding [v, ov, iv] (setItem ov iv v)
      release [v, ov, iv] []) := by intro _; rfl) (hs : swapsWithSole [.Subscript (.Name x px) i pos2] e pos.line X.env = pure false := by rfl) (hw : swappedStores [.Subscript (.Name x px) i pos2] e X.env = pure none := by rfl)
    (h1 : (assignEach [.Subscript (.Name x px) i pos2] X.env).map (·.2) = [assign (.Subscript (.Name x px) i pos2) X.env] := by rfl) :
    DS X G (.Assign [.Subscript (.Name x px) i pos2] e pos) (tAsg te (gSub (tVar k) ti rSetL)) (wSetIx k we wi) :=
  ⟨ps_asg he.pe (pg_sub hx hi.pe set_list ha) hs hw h1, sim_setIx he.sim hi.sim⟩
def isS : D → (Str → Prop) → Prop
  | .str i, Q => Q i
  | _, _ => False
@[simp] theorem isS_0 (i : Str) (Q : Str → Prop) : isS (.str i) Q = Q i := rfl
/-- a text's method with one argument -/
@[simp] def wM1 (f : F2) (a b : WE) : WE := fun δ Q => a δ fun x δ1 => isS x.d fun _ => b δ1 fun y δ2 => (x.bor → δ2.sl = δ1.sl) ∧ f x.d y.d fun q => Q q δ2
theorem sim_m1 {r : V → List V → Hp → VK → Prop} {f : F2} (hs : OpS K G (fun x y H Q => r x [y] H Q) f) (ha : SimE K G E te we) (hb : SimE K G E ti wi) : SimE K G E (tM1 r te ti) (wM1 f we wi) := fun am M σ δ H S Qd h Q k => by
  refine ha am M σ δ H S _ h _ fun x rx δ1 H1 S1 e1 o1 v1 h => ?_
  have b0 := v1.k.rb S1
  cases er : rx.d <;> rw [er] at h <;> first | exact h.elim | skip
  have ex := b0
  rw [er] at ex
  refine ⟨⟨_, ex.str⟩, ?_⟩
  refine hb am M σ δ1 H1 S1 _ h _ fun y ry δ2 H2 S2 e2 o2 v2 h => ?_
  obtain ⟨st, h⟩ := h
  have bx := (v1.k.later S1 e2 st).rb S2
  rw [er] at bx
  refine hs M H2 x y _ _ S2.al bx (v2.k.rb S2) _ h _ fun v q H3 sm rn hq => ?_
  exact k v q δ2 H3 (S2.grow sm) ((e1.trans o1 e2).trans (fun i z => o1 i (o2 i z)) (Ext.of (δ := δ2) sm)) (fun i z => o1 i (o2 i z)) (rn.rv S2 sm) hq
def strsOf : D → (List Str → Prop) → Prop
  | .lst ds, Q => ∃ ys : List Str, ds = ys.map D.str ∧ Q ys
  | .tup ds, Q => ∃ ys : List Str, ds = ys.map D.str ∧ Q ys
  | _, _ => False
@[simp] theorem strsOf_l (ds : List D) (Q : List Str → Prop) : strsOf (.lst ds) Q = ∃ ys : List Str, ds = ys.map D.str ∧ Q ys := rfl
@[simp] theorem strsOf_t (ds : List D) (Q : List Str → Prop) : strsOf (.tup ds) Q = ∃ ys : List Str, ds = ys.map D.str ∧ Q ys := rfl
def fJoin : F2
  | .str a, d, Q => strsOf d fun ys => (ys.map (·.length)).sum + ys.length * a.length ≤ 16777216 ∧ Q (.sh (.str (Txt.join a ys)))
  | _, _, _ => False
@[simp] theorem fJoin_0 (a : Str) (d : D) (Q : RD → Prop) : fJoin (.str a) d Q = strsOf d fun ys => (ys.map (·.length)).sum + ys.length * a.length ≤ 16777216 ∧ Q (.sh (.str (Txt.join a ys))) := rfl
def rJoin (K : PySem.W.Frag) : V → List V → Hp → VK → Prop := fun x xs H Q => ∃ a p, ∃ ys : List Str, x = .str a ∧ xs = [.ref p] ∧ (SqL K H p (ys.map V.str) ∨ SqT K H p (ys.map V.str)) ∧ (ys.map (·.length)).sum + ys.length * a.length ≤ 16777216 ∧ Q (.str (Txt.join a ys)) H
theorem ops_join : OpS K G (fun x y H Q => rJoin K x [y] H Q) fJoin := fun M H x y d e al bx by' Qd h Q k => by
  cases d <;> first | exact h.elim | skip
  cases e <;> first | exact h.elim | skip
  · obtain ⟨ys, rfl, hz, h⟩ := h
    obtain ⟨p, xs, rfl, hp, r⟩ := by'.lst
    rw [r.strs] at hp
    exact ⟨_, p, ys, bx.str, rfl, .inl (SqL.of hp), hz, k _ _ H (Same.refl _) rn_str h⟩
  · obtain ⟨ys, rfl, hz, h⟩ := h
    obtain ⟨p, xs, rfl, hp, r⟩ := by'.tup
    rw [r.strs] at hp
    exact ⟨_, p, ys, bx.str, rfl, .inr hp, hz, k _ _ H (Same.refl _) rn_str h⟩
theorem de_join (K : PySem.W.Frag) (ho : DE X G o te we) (he : DE X G e ti wi) (hs : starEach [e] X.env = [(false, eval e X.env)] := by rfl) (hbase : attributeBase o "join" X.env (eval o X.env) = eval o X.env := by rfl) (hline : (apos.endLine == pos.line) = true := by rfl) (hK : X.K = K := by rfl) :
    DE X G (.Call (.Attribute o "join" apos) [e] [] pos) (tM1 (rJoin K) te ti) (wM1 fJoin we wi) := by
  subst hK
  exact ⟨pe_join ho.pe he.pe hs hbase hline, fun E => sim_m1 ops_join (ho.sim E) (he.sim E)⟩
def fStr : FC
  | [.int i], Q => i.natAbs.log2 < 1920 ∧ Q (.sh (.str (toString i)))
  | [.str i], Q => Q (.sh (.str i))
  | _, _ => False
@[simp] theorem fStr_0 (i : Int) (Q : RD → Prop) : fStr [.int i] Q = (i.natAbs.log2 < 1920 ∧ Q (.sh (.str (toString i)))) := rfl
@[simp] theorem fStr_1 (i : Str) (Q : RD → Prop) : fStr [.str i] Q = (Q (.sh (.str i))) := rfl
theorem call_strA : CallR X (.type "str") (fun xs H Q => (∃ i, xs = [.int i] ∧ i.natAbs.log2 < 1920 ∧ Q (.str (toString i)) H) ∨ ∃ a, xs = [.str a] ∧ Q (.str a) H) := call_str_int.or SkE.call_str_str
theorem calls_str : CallS K G (fun xs H Q => (∃ i, xs = [.int i] ∧ i.natAbs.log2 < 1920 ∧ Q (.str (toString i)) H) ∨ ∃ a, xs = [.str a] ∧ Q (.str a) H) fStr := fun M H vs ds al b Qd h Q k => by
  match ds, h with
  | [.int i], ⟨h1, h⟩ =>
    obtain ⟨v, rfl, b1⟩ := b.one
    exact .inl ⟨i, by rw [b1.int], h1, k _ _ H (Same.refl _) rn_str h⟩
  | [.str i], h =>
    obtain ⟨v, rfl, b1⟩ := b.one
    exact .inr ⟨i, by rw [b1.str], k _ _ H (Same.refl _) rn_str h⟩
end
section
variable {K : PySem.W.Frag} {x qual : Str} {params : Arguments} {body : List Stmt} {scope : Scope} {dvs : List V} {kws : List (Str × V)} {f : Addr} {fd : FuncData} {ps : List Str}
theorem FunD.kb (F : FunD K x qual params body scope dvs kws f fd) (n : Nat) (ks : List Str) (perm : List Nat) (hd : dvs ≠ [])
    (h : ∀ (T : Addr) (kV doc pm : Value) (an : Option Addr) (cdv ct : Value) (us its ws : List Value), us.length = n → its.length = dvs.length → ws.length = ks.length →
      ∃ k, bindArgs (PySem.W.fnOf x qual params body scope (.ref T) kV doc pm an cdv ct) ⟨us, ks.zip ws⟩ = seqItems? (.ref T) >>= k ∧ k (some its.toArray) = pure (ps.zip (pick perm (us ++ ws ++ its)))) : ∃ its, Vals dvs its ∧ KB K fd ps n ks perm its := by
  obtain ⟨oc, od, dV, kV, doc, pm, an, cdv, ct, osl, rfl, lk, hcd, hD, hK⟩ := F.ex
  rcases hD with ⟨e, _⟩ | ⟨_, T, o, its, m, rfl, lT, oT, rT⟩
  · exact absurd e hd
  · refine ⟨its, rT, fun s us ws X l1 l2 => ?_⟩
    obtain ⟨k, e1, e2⟩ := h T kV doc pm an cdv ct us its ws l1 rT.length.symm l2
    refine BindsTo.of_looks fun M => ?_
    rw [e1]
    exact looks_items X lT oT (.of_pure e2)
/-- an empty tuple that stands in K -/
theorem rep_tup0 {G : Gx} {a : Addr} {o : Obj} {n : Nat} (l : K.lookup a = some o) (c : o.cls = .type "tuple") (d : o.data = .seq #[] n) : ∀ H, Rep K G H (.ref a) (.tup []) := fun H => ⟨a, [], rfl, .inr ⟨o, #[], n, l, c, d, Nat.zero_le _, .nil⟩, rfl⟩
theorem Dfl.cons {G : Gx} {v : V} {d : D} {vs : List V} {ds : List D} (h : ∀ H, Rep K G H v d) (t : Dfl K G vs ds) : Dfl K G (v :: vs) (d :: ds) := fun H => ⟨v, vs, rfl, h H, t H⟩
end
end L3
namespace L3
open PySem PySem.Spec PyProof.Rows L2
/-- an own list is given away, where it is one -/
@[simp] def freeAt (sl : List (Option SV)) (i : Nat) : List (Option SV) := match sl[i]? with
  | some (some (.ow d)) => sl.set i (some (.sh d))
  | _ => sl
@[simp] def wFreeA (i : Nat) (w : WS) : WS := fun De δ => w De ⟨freeAt δ.sl i, δ.n⟩
section
variable {X : Cx} {G : Gx} {K : PySem.W.Frag} {E : Ent} {sts : List Stmt} {t : TS} {w : WS}
theorem sim_freeA {i : Nat} (h : SimS K G t w) : SimS K G t (wFreeA i w) := fun E am M σ δ H S D3 q De R => by
  unfold wFreeA freeAt at q
  cases e : δ.sl[i]? with
  | none => rw [e] at q; exact h E am M σ δ H S D3 q De R
  | some o =>
    cases o with
    | none => rw [e] at q; exact h E am M σ δ H S D3 q De R
    | some sv =>
      cases sv with
      | sh d => rw [e] at q; exact h E am M σ δ H S D3 q De R
      | ow d =>
        rw [e] at q
        obtain ⟨M', _, S'⟩ := S.free e
        exact h E am M' σ _ H S' D3 q De R
theorem dss_freeA (i : Nat) (h1 : DSs X G sts t w) : DSs X G sts t (wFreeA i w) := ⟨h1.ps, sim_freeA h1.sim⟩
end
/-- a text of at most k signs -/
def OkS (k : Nat) (x : Str) : Prop := x.length ≤ k ∧ ∀ c ∈ x.cps.toList, c < 0x110000
theorem OkS.mono {k l : Nat} {x : Str} (h : OkS k x) (hl : k ≤ l) : OkS l x := ⟨Nat.le_trans h.1 hl, h.2⟩
theorem OkS.of {k : Nat} {x : Str} (h : decide (x.length ≤ k) = true) (h' : (x.cps.toList.all fun c => decide (c < 0x110000)) = true) : OkS k x := ⟨of_decide_eq_true h, fun c hc => of_decide_eq_true (List.all_eq_true.mp h' c hc)⟩
theorem OkS.one {c : Nat} (h : c < 0x110000) : OkS 1 ⟨#[c]⟩ := ⟨Nat.le_refl _, fun d hd => by
  have : d = c := by simpa using hd
  rw [this]; exact h⟩
theorem app_cps (x y : Str) : (x ++ y).cps.toList = x.cps.toList ++ y.cps.toList := by
  show (x.cps ++ y.cps).toList = _
  simp
theorem app_len (x y : Str) : (x ++ y).length = x.length + y.length := by
  show (x.cps ++ y.cps).size = _
  simp [Str.length]
theorem OkS.app {k l : Nat} {x y : Str} (h : OkS k x) (h' : OkS l y) : OkS (k + l) (x ++ y) := ⟨by rw [app_len]; exact Nat.add_le_add h.1 h'.1, fun c hc => by
  rw [app_cps] at hc
  rcases List.mem_append.mp hc with z | z
  · exact h.2 c z
  · exact h'.2 c z⟩
theorem OkS.joinS {k a : Nat} {sep : Str} (hs : OkS a sep) : ∀ {ys : List Str}, (∀ y ∈ ys, OkS k y) → OkS (ys.length * (k + a)) (Str.join sep ys)
  | [], _ => ⟨Nat.zero_le _, fun c hc => by simp [Str.join, Str.empty] at hc⟩
  | [y], h => (h y (by simp)).mono (by simp)
  | x :: y :: r, h => by
    have ih := OkS.joinS hs (ys := y :: r) fun z hz => h z (List.mem_cons_of_mem _ hz)
    have := ((h x List.mem_cons_self).app hs).app ih
    refine OkS.mono (show OkS _ (x ++ sep ++ Str.join sep (y :: r)) from this) ?_
    simp only [List.length_cons, Nat.add_mul]
    omega
theorem OkS.join {k a : Nat} {sep : Str} (hs : OkS a sep) {ys : List Str} (h : ∀ y ∈ ys, OkS k y) : OkS (ys.length * (k + a)) (Txt.join sep ys) := by
  have e : Txt.join sep ys = Str.join sep ys := PySem.StrLaws.glued_eq_join sep ys
  rw [e]; exact OkS.joinS hs h
theorem OkS.cut {k : Nat} {x : Str} (h : OkS k x) (lo hi : Option Int) : OkS k (cutS x lo hi) := by
  refine ⟨Nat.le_trans ?_ h.1, fun c hc => h.2 c ?_⟩
  · unfold cutS Str.length
    simp
    omega
  · unfold cutS at hc
    simp at hc
    exact List.mem_of_mem_drop (List.mem_of_mem_take hc)
theorem sum_len {k : Nat} : ∀ {ys : List Str}, (∀ y ∈ ys, y.length ≤ k) → (ys.map (·.length)).sum ≤ ys.length * k
  | [], _ => by simp
  | y :: r, h => by
    have := sum_len (ys := r) fun z hz => h z (List.mem_cons_of_mem _ hz)
    have := h y List.mem_cons_self
    simp only [List.map_cons, List.sum_cons, List.length_cons, Nat.add_mul]
    omega
theorem OkS.lay {k : Nat} {x : Str} (h : OkS k x) : PyData.canLay0 (.str x) = true := by
  show PyData.strOk x = true
  unfold PyData.strOk
  rw [Array.all_eq_true']
  intro c hc
  exact decide_eq_true (h.2 c (by simpa using hc))
theorem Sh.str {k : Nat} {x : Str} (h : OkS k x) : Sh (.str x) (.str x) 0 (10 * k + 2) where
  py := py_str x
  sw := rfl
  nd := rfl
  dp := Nat.le_refl _
  ln := by
    have := PySem.StrLaws.reprText_len x fun c hc => Nat.lt_trans (h.2 c hc) (by decide)
    have := h.1
    show (reprText x).length ≤ _
    omega
theorem ShAll.strs {k : Nat} : ∀ {ns : List Str}, (∀ n ∈ ns, OkS k n) → ShAll (ns.map D.str) (ns.map PyData.str) 0 ((10 * k + 4) * ns.length)
  | [], _ => .nil
  | n :: ns, h => by
    have := ShAll.cons (Sh.str (h n List.mem_cons_self)) (ShAll.strs (ns := ns) fun m hm => h m (List.mem_cons_of_mem _ hm)) (Nat.le_refl _)
    refine ⟨this.py, this.sw, this.nd, this.dp, Nat.le_trans this.ln ?_⟩
    simp only [List.length_cons, Nat.mul_add]
    omega
theorem Pl.strs {k h : Nat} {l : List Str} (hl : ∀ x ∈ l, OkS k x) : Pl (h + 1) (.lst (l.map D.str)) := .lst fun d hd => by
  obtain ⟨i, hi, rfl⟩ := List.mem_map.mp hd
  exact .str _ _ (hl i hi).lay
theorem Pl.tstrs {k h : Nat} {l : List Str} (hl : ∀ x ∈ l, OkS k x) : Pl (h + 1) (.tup (l.map D.str)) := .tup fun d hd => by
  obtain ⟨i, hi, rfl⟩ := List.mem_map.mp hd
  exact .str _ _ (hl i hi).lay
theorem OkS.int {i : Int} {k : Nat} (hk : 0 < k) (h : i.natAbs < 10 ^ k) : OkS (k + 1) (Str.ofString (toString i)) := by
  refine ⟨by rw [PySem.ofString_length]; exact int_text_length_le10 hk h, fun c hc => ?_⟩
  rw [signs_ofString] at hc
  obtain ⟨ch, _, rfl⟩ := List.mem_map.mp hc
  have := ch.valid
  show ch.val.toNat < 0x110000
  rcases this with z | z
  · have z : ch.val.toNat < 0xd800 := z
    omega
  · exact z.2
end L3
namespace L3
open PySem PySem.Spec PyProof.Rows L2
section
variable {prog : Program} {w : World} {A : Around} {R : Result → Shared → Prop} {s : Shared} {elt t0 i0 t1 i1 : Expr} {ifs0 ifs1 : List Expr} {scope : Scope} {pos : Pos} {it acc : Value} {env : Env}
abbrev sc2 (elt t0 i0 t1 i1 : Expr) (ifs0 ifs1 : List Expr) (scope : Scope) (pos : Pos) : Expr := .SetComp elt [⟨t0, i0, ifs0, 0⟩, ⟨t1, i1, ifs1, 0⟩] scope pos
abbrev tests (env : Env) (ifs : List Expr) : Sem Bool := forIn ifs true fun c r => if r = true then do let ok ← isTrue c env (eval c env); pure (ForInStep.yield ok) else pure (ForInStep.yield r)
theorem turn_out : compTurn (sc2 elt t0 i0 t1 i1 ifs0 ifs1 scope pos) 0 it acc env = (do
      standAt i0.pos
      match ← pyNext it with
      | none => pure (.done .next)
      | some v =>
        letOwnedTupleGo t0 it v
        assign t0 env v
        let mut ok := true
        for c in ifs0 do
          if ok then ok ← isTrue c env (eval c env)
        if ok then
          let x ← eval i1 env
          standAt i1.pos
          let x ← foldedSetIterable i1 env x
          let _ ← runOwn (.compStart (sc2 elt t0 i0 t1 i1 ifs0 ifs1 scope pos) 1 (← holding [x] (pyIter x)) acc env) env
        again (.compLoop (sc2 elt t0 i0 t1 i1 ifs0 ifs1 scope pos) 0 it acc env)) := by rfl
theorem turn_in : compTurn (sc2 elt t0 i0 t1 i1 ifs0 ifs1 scope pos) 1 it acc env = (do
      standAt i1.pos
      match ← pyNext it with
      | none => pure (.done .next)
      | some v =>
        letOwnedTupleGo t1 it v
        assign t1 env v
        let mut ok := true
        for c in ifs1 do
          if ok then ok ← isTrue c env (eval c env)
        if ok then
          (do let v ← eval elt env; standAt elt.pos; let _ ← call (.builtin "set.add") [acc, v])
        again (.compLoop (sc2 elt t0 i0 t1 i1 ifs0 ifs1 scope pos) 1 it acc env)) := by rfl
theorem loop_out (hs : ∀ x, foldedSetIterable i1 env x = pure x) (I : Nat → Shared → Prop)
    (turn : ∀ n s, I n s → wpAny (model prog w) A (pyNext it) (fun r s₁ => match r with
      | none => R (.ok .next) s₁
      | some v => wpAny (model prog w) A (letOwnedTupleGo t0 it v) (fun _ s₁' => wpAny (model prog w) A (assign t0 env v) (fun _ s₂ =>
          wpAny (model prog w) A (tests env ifs0) (fun ok s₃ =>
            if ok = true then wpAny (model prog w) A (eval i1 env) (fun x s₄ => wpAny (model prog w) A (pyIter x) (fun it1 s₅ =>
              codeAny (model prog w) A (.compStart (sc2 elt t0 i0 t1 i1 ifs0 ifs1 scope pos) 1 it1 acc env) (fun r s' => match r with
                | .ok _ => ∃ m, m < n ∧ I m s'
                | .error _ => False) s₅) (notedBy (model prog w) A env fun e s' => R (.error e) s') s₄) (notedBy (model prog w) A env fun e s' => R (.error e) s') s₃
            else ∃ m, m < n ∧ I m s₃) (notedBy (model prog w) A env fun e s' => R (.error e) s') s₂) (notedBy (model prog w) A env fun e s' => R (.error e) s') s₁') (notedBy (model prog w) A env fun e s' => R (.error e) s') s₁) (notedBy (model prog w) A env fun e s' => R (.error e) s') s)
    (n : Nat) (h : I n s) : codeAny (model prog w) A (.compLoop (sc2 elt t0 i0 t1 i1 ifs0 ifs1 scope pos) 0 it acc env) R s := by
  refine codeAny_loop rfl I (fun n s hI => ?_) n h
  show wpAny _ A ((compTurn (sc2 elt t0 i0 t1 i1 ifs0 ifs1 scope pos) 0 it acc env).onRaise (fun x => do noteFrame x env; theTreesLotGoes x)) _ _ s
  refine wpAny_noted ?_
  rw [turn_out]
  refine wpAny_bind (wpAny_standAt (wpAny_bind (wpAny_mono (turn n s hI) (fun r s₁ h₁ => ?_) fun _ _ h' => h')))
  cases r with
  | none => exact wpAny_pure h₁
  | some v =>
    refine wpAny_bind (wpAny_mono h₁ (fun _ _ h₁' => wpAny_bind (wpAny_mono h₁' (fun _ _ h₂ => wpAny_bind (wpAny_mono h₂ (fun ok s₃ h₃ => ?_) fun _ _ h' => h')) fun _ _ h' => h')) fun _ _ h' => h')
    cases ok with
    | false => exact wpAny_pure ⟨rfl, h₃⟩
    | true =>
      refine wpAny_bind (wpAny_mono h₃ (fun x s₄ h₄ => ?_) fun _ _ h' => h')
      refine wpAny_bind (wpAny_standAt (wpAny_bind (wpAny_of_eq (hs x) (wpAny_bind (wpAny_holding (wpAny_mono h₄ (fun it1 s₅ h₅ => ?_) fun _ _ h' => h'))))))
      refine wpAny_bind (wpAny_runOwn ?_)
      rw [Around.mark_none]
      refine codeAny_mono h₅ fun r s' hr => ?_
      cases r with
      | ok f =>
        first
          | exact wpAny_pure ⟨rfl, hr⟩
          | exact wpAny_bind (wpAny_pure (wpAny_pure ⟨rfl, hr⟩))
      | error e => exact hr.elim
theorem loop_in (I : Nat → Shared → Prop)
    (turn : ∀ n s, I n s → wpAny (model prog w) A (pyNext it) (fun r s₁ => match r with
      | none => R (.ok .next) s₁
      | some v => wpAny (model prog w) A (letOwnedTupleGo t1 it v) (fun _ s₁' => wpAny (model prog w) A (assign t1 env v) (fun _ s₂ =>
          wpAny (model prog w) A (tests env ifs1) (fun ok s₃ =>
            if ok = true then wpAny (model prog w) A (eval elt env) (fun x s₄ =>
              wpAny (model prog w) A (call (.builtin "set.add") [acc, x]) (fun _ s₅ => ∃ m, m < n ∧ I m s₅) (notedBy (model prog w) A env fun e s' => R (.error e) s') s₄) (notedBy (model prog w) A env fun e s' => R (.error e) s') s₃
            else ∃ m, m < n ∧ I m s₃) (notedBy (model prog w) A env fun e s' => R (.error e) s') s₂) (notedBy (model prog w) A env fun e s' => R (.error e) s') s₁') (notedBy (model prog w) A env fun e s' => R (.error e) s') s₁) (notedBy (model prog w) A env fun e s' => R (.error e) s') s)
    (n : Nat) (h : I n s) : codeAny (model prog w) A (.compLoop (sc2 elt t0 i0 t1 i1 ifs0 ifs1 scope pos) 1 it acc env) R s := by
  refine codeAny_loop rfl I (fun n s hI => ?_) n h
  show wpAny _ A ((compTurn (sc2 elt t0 i0 t1 i1 ifs0 ifs1 scope pos) 1 it acc env).onRaise (fun x => do noteFrame x env; theTreesLotGoes x)) _ _ s
  refine wpAny_noted ?_
  rw [turn_in]
  refine wpAny_bind (wpAny_standAt (wpAny_bind (wpAny_mono (turn n s hI) (fun r s₁ h₁ => ?_) fun _ _ h' => h')))
  cases r with
  | none => exact wpAny_pure h₁
  | some v =>
    refine wpAny_bind (wpAny_mono h₁ (fun _ _ h₁' => wpAny_bind (wpAny_mono h₁' (fun _ _ h₂ => wpAny_bind (wpAny_mono h₂ (fun ok s₃ h₃ => ?_) fun _ _ h' => h')) fun _ _ h' => h')) fun _ _ h' => h')
    cases ok with
    | false => exact wpAny_pure ⟨rfl, h₃⟩
    | true => exact wpAny_bind (wpAny_bind (wpAny_mono h₃ (fun x s₄ h₄ => wpAny_bind (wpAny_standAt (wpAny_bind (wpAny_mono h₄ (fun _ s₅ h₅ => wpAny_pure (wpAny_pure ⟨rfl, h₅⟩)) fun _ _ h' => h')))) fun _ _ h' => h'))
theorem start_in (h0 : codeAny (model prog w) A (.compLoop (sc2 elt t0 i0 t1 i1 ifs0 ifs1 scope pos) 1 it acc env) R s)
    (h : wpAny (model prog w) A (pyIter it) (fun it' s' => codeAny (model prog w) A (.compLoop (sc2 elt t0 i0 t1 i1 ifs0 ifs1 scope pos) 1 it' acc env) R s')
      (notedBy (model prog w) A env fun x s' => R (.error x) s') s) : codeAny (model prog w) A (.compStart (sc2 elt t0 i0 t1 i1 ifs0 ifs1 scope pos) 1 it acc env) R s := by
  refine codeAny_of_tree ?_
  show wpAny _ _ ((compStart (sc2 elt t0 i0 t1 i1 ifs0 ifs1 scope pos) 1 it acc env).onRaise (fun x => do noteFrame x env; standAt theWindowsPlace)) _ _ s
  refine wpAny_notedAt ?_
  unfold compStart
  show wpAny _ _ (ask >>= _) _ _ s
  refine wpAny_bind (wpAny_askSetting (wpAny_ite ?_))
  split
  · first
      | exact wpAny_bind (wpAny_pure (wpAny_pure (And.intro rfl h0)))
      | exact wpAny_pure (And.intro rfl h0)
  · first
      | exact wpAny_bind (wpAny_rule (wpAny_bind (wpAny_standAt (wpAny_bind (wpAny_mono h (fun it' s' h' => wpAny_pure (And.intro rfl h')) fun _ _ x => x)))))
      | (refine wpAny_bind (wpAny_rule ?_); show wpAny _ _ (standAt i1.pos >>= _) _ _ s; exact wpAny_bind (wpAny_standAt (wpAny_bind (wpAny_mono h (fun it' s' h' => wpAny_pure (And.intro rfl h')) fun _ _ x => x))))
end
section
variable {X : Cx}
theorem addI_ok {pins : List (Addr × Obj)} {σ : L2.St} {H : Hp} {s : Shared} {F : Value → Shared → Prop} {D : Addr} {S : Int → Bool} {n : Nat} {y : Int} {tk : Tok} {Q : Value → Shared → Prop} (I : Inv X pins σ H s) (hD : H D = some (SetO X.w D S n)) (room : n + 1 < scanBound)
    (h : ∀ s', Inv X pins σ (upd H D (SetO X.w D (fun j => S j || decide (j = y)) (if S y = true then n else n + 1))) s' → Q .none s') : wpAny (model X.prog X.w) X.A (call (.builtin "set.add") [.ref D, .int y tk]) Q F s := by
  refine setR_add (setO_get I hD) room fun h' sb new => ?_
  obtain ⟨o, a1, a2, a3, ho, a4⟩ := id new
  exact h _ (I.write (e := D) (t' := s.toks + 1) (by rw [hD]; trivial) (.inl rfl) (fun b u hb hu => (sb.2 b hb).trans hu) ⟨o, ho⟩ (setO_new new))
def tSc2 (w : World) (wi : TI) (g : TG) (tt : TT) (wi1 : TI) (g1 : TG) (tt1 : TT) (te : TE) (vs vs1 : List Nat) : TE := fun σ H Q => wi σ H fun J H1 => ∀ D, H1 D = none → ∃ W : Nat → Nat → Hp → Prop, (∃ m, W 0 m (upd H1 D (SetO w D (fun _ => false) 0))) ∧ ∀ i m H, W i m H →
  (J.stop i H ∧ Q (.ref D) H) ∨ (J.go i H ∧ ∃ Nx : Hp → Prop, (∀ H', Nx H' → ∃ m', m' < m ∧ W (i + 1) m' H') ∧ ∀ x H', J.yld i H x H' → g x (wipe σ vs) H' fun σ2 H2 => wipe σ2 vs = wipe σ vs ∧ tt σ2 H2 fun b H3 =>
    if b = true then wi1 σ2 H3 fun J1 H4 => ∃ W1 : Nat → Nat → Hp → Prop, (∃ m, W1 0 m H4) ∧ ∀ j k H, W1 j k H →
      (J1.stop j H ∧ Nx H) ∨ (J1.go j H ∧ ∃ Nx1 : Hp → Prop, (∀ H', Nx1 H' → ∃ k', k' < k ∧ W1 (j + 1) k' H') ∧ ∀ x H', J1.yld j H x H' → g1 x (wipe σ2 vs1) H' fun σ3 H5 => wipe σ3 vs1 = wipe σ2 vs1 ∧ tt1 σ3 H5 fun b H6 =>
        if b = true then te σ3 H6 fun y H7 => ∃ (c : Int) (S : Int → Bool) (n : Nat), y = .int c ∧ H7 D = some (SetO w D S n) ∧ n + 1 < scanBound ∧ Nx1 (upd H7 D (SetO w D (fun j => S j || decide (j = c)) (if S c = true then n else n + 1))) else Nx1 H6)
    else Nx H3)
set_option maxHeartbeats 4000000 in
theorem pe_sc2 {elt tg iter tg1 iter1 : Expr} {ifs ifs1 : List Expr} {scope : Scope} {own : List (Str × Nat)} {vs1 : List Nat} {pos : Pos} {wi wi1 : TI} {g g1 : TG} {tt tt1 : TT} {te : TE} (hc : X.calm = true) (hN : X.N.Nodup) (hi : PI X tg iter wi) (ok : BlkOk X.N X.env.scope scope own) (hv : ∀ i ∈ vs1, i ∈ own.map (·.2))
    (hg : ∀ (s : Shared) (H : Hp) (C : Addr) (cl : List (Str × Addr)) (fp : List Addr), PG (X.blk s H scope (compEnvC scope cl C X.env) fp) tg g) (ht : ∀ (s : Shared) (H : Hp) (C : Addr) (cl : List (Str × Addr)) (fp : List Addr), PTs (X.blk s H scope (compEnvC scope cl C X.env) fp) ifs tt)
    (hi1 : ∀ (s : Shared) (H : Hp) (C : Addr) (cl : List (Str × Addr)) (fp : List Addr), PI (X.blk s H scope (compEnvC scope cl C X.env) fp) tg1 iter1 wi1)
    (hg1 : ∀ (s : Shared) (H : Hp) (C : Addr) (cl : List (Str × Addr)) (fp : List Addr), PG (X.blk s H scope (compEnvC scope cl C X.env) fp) tg1 g1) (ht1 : ∀ (s : Shared) (H : Hp) (C : Addr) (cl : List (Str × Addr)) (fp : List Addr), PTs (X.blk s H scope (compEnvC scope cl C X.env) fp) ifs1 tt1)
    (he : ∀ (s : Shared) (H : Hp) (C : Addr) (cl : List (Str × Addr)) (fp : List Addr), PE (X.blk s H scope (compEnvC scope cl C X.env) fp) elt te) (hs : ∀ x, foldedSetIterable iter X.env x = pure x := by intro _; rfl) (hs1 : ∀ env x, foldedSetIterable iter1 env x = pure x := by intro _ _; rfl) :
    PE X (sc2 elt tg iter tg1 iter1 ifs ifs1 scope pos) (tSc2 X.w wi g tt wi1 g1 tt1 te (own.map (·.2)) vs1) := by
  refine ⟨fun pins s σ H Q I h => ?_⟩
  rw [PpSet.eval_SetComp]
  have hfree : ∀ y ∈ scope.names, y.2 = .free → ∃ c, X.env.cells.lookup y.1 = some c := fun y hy e => by
    rcases ok.free y hy e with k | k
    · exact I.ok.has _ (.inl k)
    · exact I.ok.has _ (.inr k)
  refine wpAny_comprehension_free (use := none) rfl hs (closure_ok hfree) ok.kind (fun y hy e => by rw [ok.uniq y hy, e])
    (thn (hi.run pins s σ H _ I h) fun xv s1 hx => thn hx fun itv s2 h2 => ?_)
  obtain ⟨it, fp, tn, J, H2, e, I2, T, st2, f2, q⟩ := h2
  subst e
  refine PpSet.newSet_ok (newEnv_comp ?_)
  generalize hD : s2.heap.objs.size = D
  have hDn : H2 D = none := I2.hok.fresh (Nat.le_of_eq hD)
  obtain ⟨W, ⟨m0, w0⟩, turn⟩ := q D hDn
  generalize hs3 : ({ s2 with heap := s2.heap.push { cls := .type "set", dict := none, data := .set #[] 0 (.fresh 0 0 (!X.w.params.followText "set-order")) } } : Shared) = s3
  have I3 : Inv X pins σ (upd H2 D (SetO X.w D (fun _ => false) 0)) s3 := by
    rw [← hs3]
    refine I2.laid (t' := s2.toks) (fun b o e => Heap.get?_push_of_some _ e) (Nat.le_of_eq hD) ?_
    rw [← hD]
    exact setO_new (setR_fresh X.w)
  have h3 : s3.heap = s2.heap.push { cls := .type "set", dict := none, data := .set #[] 0 (.fresh 0 0 (!X.w.params.followText "set-order")) } := by rw [← hs3]
  have f3 : ∀ b ∈ fp, FpOk X pins (upd H2 D (SetO X.w D (fun _ => false) 0)) b ∧ b < s3.heap.objs.size := fun b hb => by
    have hlt : b < s2.heap.objs.size := by
      obtain ⟨o, e, _⟩ := T.obj _ _ st2 b hb
      exact Heap.lt_size e
    refine ⟨⟨?_, (f2 b hb).2⟩, by rw [h3, Heap.size_push]; exact Nat.lt_succ_of_lt hlt⟩
    rw [upd_ne (by rw [← hD]; exact Nat.ne_of_lt hlt)]
    exact (f2 b hb).1
  have st3 : tn 0 s3.heap := T.keep _ _ _ st2 fun b _ o e => by rw [h3]; exact Heap.get?_push_of_some _ e
  have I4 := block_start I3 ok hN f3
  generalize hH3 : upd H2 D (SetO X.w D (fun _ => false) 0) = H3 at I3 I4 w0 f3
  generalize hcl : cellsFrom (s3.heap.objs.size + 1) scope.names (cloFrom X.env.cells scope.names []) = cl at I4 ⊢
  have pg := hg s3 H3 s3.heap.objs.size cl fp
  have pt := ht s3 H3 s3.heap.objs.size cl fp
  have pe := he s3 H3 s3.heap.objs.size cl fp
  have pi1 := hi1 s3 H3 s3.heap.objs.size cl fp
  have pg1 := hg1 s3 H3 s3.heap.objs.size cl fp
  have pt1 := ht1 s3 H3 s3.heap.objs.size cl fp
  have nfp : ∀ b ∈ fp, H3 b = none := fun b hb => (f3 b hb).1.1
  show codeAny _ _ (.compStart (sc2 elt tg iter tg1 iter1 ifs ifs1 scope pos) 0 (.ref it) (.ref D) (compEnvC scope cl s3.heap.objs.size X.env)) (compPost (model X.prog X.w) X.A X.xe none (EP X pins σ Q) (.ref D) s3.heap.objs.size) { s3 with heap := pushCells (s3.heap.push { cls := .type "dict", data := .dict #[] }) scope.names }
  generalize hce : compEnvC scope cl s3.heap.objs.size X.env = ce at I4 pg pt pe pi1 pg1 pt1 ⊢
  have cL : ce.locals = s3.heap.objs.size := by subst hce; rfl
  generalize hs4 : ({ s3 with heap := pushCells (s3.heap.push { cls := .type "dict", data := .dict #[] }) scope.names } : Shared) = s4 at I4 ⊢
  have st4 : tn 0 s4.heap := T.keep _ _ _ st3 fun b _ o e => by rw [← hs4]; exact pushCells_keeps _ _ _ _ (Heap.get?_push_of_some _ e)
  have stat : ∀ {σ' : L2.St} {H' : Hp} {s' : Shared}, Inv (X.blk s3 H3 scope ce fp) [] σ' H' s' → (∀ b ∈ fp, H' b = none) → ∀ b ∈ fp, FpOk (X.blk s3 H3 scope ce fp) [] H' b := fun {σ' H' s'} I' hn b hb =>
    ⟨hn b hb, (I'.ok.exf b hb).1, I'.ok.exfs b hb, .inl hb, fun x c e => (I'.ok.exf b hb).2 x c e, fun p hp => absurd (show p ∈ ([] : List (Addr × Obj)) ++ [] from hp) (by simp)⟩
  have loop : codeAny (model X.prog X.w) X.A (.compLoop (sc2 elt tg iter tg1 iter1 ifs ifs1 scope pos) 0 (.ref it) (.ref D) ce) (compPost (model X.prog X.w) X.A X.xe none (EP X pins σ Q) (.ref D) s3.heap.objs.size) s4 := by
    refine loop_out (hs1 ce) (fun n s' => ∃ i H', Inv (X.blk s3 H3 scope ce fp) [] (wipe σ (own.map (·.2))) H' s' ∧ tn i s'.heap ∧ (∀ b ∈ fp, H' b = none) ∧ W i n H') ?_ m0 ⟨0, H3, I4, st4, nfp, w0⟩
    rintro n s5 ⟨i, H5, I5, st5, n5, w5⟩
    rcases turn i n H5 w5 with ⟨stop, qq⟩ | ⟨go, Nx, hNx, step⟩
    · refine thnF (T.done (X.blk s3 H3 scope ce fp) rfl rfl rfl hc i [] s5 _ H5 (fun _ _ => False) I5 (stat I5 n5) st5 stop) fun r s6 ⟨hr, I6⟩ => ?_
      subst hr
      have I7 : Inv X pins σ H5 s6 := I3.call' (ch := fp) I6.os I6.base I6.hok I6.bare fun b hb => ⟨(f3 b hb).1.2.2.2.1, (f3 b hb).1.2.1, (f3 b hb).1.2.2.2.2.1, (f3 b hb).1.2.2.2.2.2⟩
      have nC : H5 s3.heap.objs.size = none := by
        have z : H5 ce.locals = none := I6.free
        rwa [cL] at z
      obtain ⟨m, hn, _⟩ := I6.loc
      have hn : s6.heap.Ns ce.locals m := hn
      rw [cL] at hn
      obtain ⟨f0, f1, f2', f3', f4, f5⟩ := I3.fpOk (Nat.le_refl _) nC
      exact ⟨m, hn, fun h'' sb => ⟨.ref D, H5, I7.turned (t' := s6.toks) (fun b o hb e => (sb.2 b hb).trans e) f0 f1 f3' f4 f5, rfl, qq⟩⟩
    · refine thnF (T.item (X.blk s3 H3 scope ce fp) rfl rfl rfl hc i [] s5 _ H5 (fun _ _ => False) I5 (stat I5 n5) st5 go) fun r s6 ⟨u, hr, h6⟩ => ?_
      subst hr
      refine thnF h6 fun _ s7 ⟨x, H7, I7, r7, y7, st7, n7⟩ => ?_
      have I7' := I7.pinned (stat I7 n7) (T.obj _ _ st7)
      refine thnF (pg.run _ s7 _ H7 x u _ I7' r7 (step x H7 y7)) fun _ s8 ⟨σ8, H8, I8, hw8, q8⟩ => ?_
      refine thnF (pt.run _ s8 σ8 H8 _ I8 q8) fun b s9 ⟨H9, I9, q9⟩ => ?_
      have fin : ∀ {σ9 : L2.St} {s' : Shared} {H' : Hp}, Inv (X.blk s3 H3 scope ce fp) ([] ++ pinsAt fp s7.heap) σ9 H' s' → (wipe σ (own.map (·.2))).length = σ9.length → (∀ (j : Nat) v, (wipe σ (own.map (·.2)))[j]? = some (some v) → σ9[j]? = some (some v)) → Nx H' →
          ∃ m, m < n ∧ ∃ i H', Inv (X.blk s3 H3 scope ce fp) [] (wipe σ (own.map (·.2))) H' s' ∧ tn i s'.heap ∧ (∀ b ∈ fp, H' b = none) ∧ W i m H' := fun {σ9 s' H'} I' hl hk nx => by
        obtain ⟨m', hm, w'⟩ := hNx H' nx
        have pin' : ∀ b ∈ fp, ∀ o, s7.heap.get? b = some o → s'.heap.get? b = some o ∧ H' b = none := fun b hb o e =>
          let z := I'.pin (b, o) (List.mem_append_right _ (List.mem_append_right _ (mem_pinsAt hb e)))
          ⟨z.1, z.2.1⟩
        refine ⟨m', hm, i + 1, H', (I'.unpinned (pins := [])).weak hl hk, T.keep _ _ _ st7 fun b hb o e => (pin' b hb o e).1, fun b hb => ?_, w'⟩
        obtain ⟨o, e, _⟩ := T.obj _ _ st7 b hb
        exact (pin' b hb o e).2
      have hl8 : (wipe σ (own.map (·.2))).length = σ8.length := by rw [← hw8, wipe_length]
      have hk8 : ∀ (j : Nat) v, (wipe σ (own.map (·.2)))[j]? = some (some v) → σ8[j]? = some (some v) := fun j v e => by
        rw [← hw8] at e
        exact (wipe_some e).1
      have hk9 : ∀ (j : Nat) v, (wipe σ (own.map (·.2)))[j]? = some (some v) → (wipe σ8 vs1)[j]? = some (some v) := fun j v e => by
        rw [← hw8] at e
        obtain ⟨e1, e2⟩ := wipe_some e
        rw [wipe_out fun z => e2 (hv j z)]
        exact e1
      cases b with
      | false =>
        simp only [Bool.false_eq_true, if_false] at q9 ⊢
        exact fin I9 hl8 hk8 q9
      | true =>
        simp only [if_true] at q9 ⊢
        refine thnF (pi1.run _ s9 σ8 H9 _ I9 q9) fun xv s10 hx => thnF hx fun itv s11 h11 => ?_
        obtain ⟨it1, fp1, tn1, J1, H11, e1, I11, T1, st11, f11, W1, ⟨m1, w1⟩, turn1⟩ := h11
        subst e1
        have stat1 : ∀ {H' : Hp}, (∀ b ∈ fp1, H' b = none) → ∀ b ∈ fp1, FpOk (X.blk s3 H3 scope ce fp) ([] ++ pinsAt fp s7.heap) H' b := fun hn b hb => ⟨hn b hb, (f11 b hb).2⟩
        have loop1 : codeAny (model X.prog X.w) X.A (.compLoop (sc2 elt tg iter tg1 iter1 ifs ifs1 scope pos) 1 (.ref it1) (.ref D) ce)
            (fun r s' => match r with
              | .ok _ => ∃ m, m < n ∧ ∃ i H', Inv (X.blk s3 H3 scope ce fp) [] (wipe σ (own.map (·.2))) H' s' ∧ tn i s'.heap ∧ (∀ b ∈ fp, H' b = none) ∧ W i m H'
              | .error _ => False) s11 := by
          refine loop_in (fun k s' => ∃ j H', Inv (X.blk s3 H3 scope ce fp) ([] ++ pinsAt fp s7.heap) (wipe σ8 vs1) H' s' ∧ tn1 j s'.heap ∧ (∀ b ∈ fp1, H' b = none) ∧ W1 j k H') ?_ m1 ⟨0, H11, I11.weak (wipe_length _ _) (fun j v e => (wipe_some e).1), st11, fun b hb => (f11 b hb).1, w1⟩
          rintro k s12 ⟨j, H12, I12, st12, n12, w12⟩
          rcases turn1 j k H12 w12 with ⟨stop1, nx1⟩ | ⟨go1, Nx1, hNx1, step1⟩
          · refine thnF (T1.done (X.blk s3 H3 scope ce fp) rfl rfl rfl hc j _ s12 (wipe σ8 vs1) H12 (fun _ _ => False) I12 (stat1 n12) st12 stop1) fun r s13 ⟨hr, I13⟩ => ?_
            subst hr
            exact fin I13 (hl8.trans (wipe_length σ8 vs1).symm) hk9 nx1
          · refine thnF (T1.item (X.blk s3 H3 scope ce fp) rfl rfl rfl hc j _ s12 (wipe σ8 vs1) H12 (fun _ _ => False) I12 (stat1 n12) st12 go1) fun r s13 ⟨u1, hr, h13⟩ => ?_
            subst hr
            refine thnF h13 fun _ s14 ⟨x1, H14, I14, r14, y14, st14, n14⟩ => ?_
            have I14' := I14.pinned (stat1 n14) (T1.obj _ _ st14)
            refine thnF (pg1.run _ s14 (wipe σ8 vs1) H14 x1 u1 _ I14' r14 (step1 x1 H14 y14)) fun _ s15 ⟨σ15, H15, I15, hw15, q15⟩ => ?_
            refine thnF (pt1.run _ s15 σ15 H15 _ I15 q15) fun b1 s16 ⟨H16, I16, q16⟩ => ?_
            have fin1 : ∀ {s' : Shared} {H' : Hp}, Inv (X.blk s3 H3 scope ce fp) (([] ++ pinsAt fp s7.heap) ++ pinsAt fp1 s14.heap) σ15 H' s' → Nx1 H' → ∃ m, m < k ∧ ∃ j H', Inv (X.blk s3 H3 scope ce fp) ([] ++ pinsAt fp s7.heap) (wipe σ8 vs1) H' s' ∧ tn1 j s'.heap ∧ (∀ b ∈ fp1, H' b = none) ∧ W1 j m H' := fun {s' H'} I' nx => by
              obtain ⟨m', hm, w'⟩ := hNx1 H' nx
              have pin' : ∀ b ∈ fp1, ∀ o, s14.heap.get? b = some o → s'.heap.get? b = some o ∧ H' b = none := fun b hb o e =>
                let z := I'.pin (b, o) (List.mem_append_right _ (List.mem_append_right _ (mem_pinsAt hb e)))
                ⟨z.1, z.2.1⟩
              refine ⟨m', hm, j + 1, H', I'.unpinned.weak (by rw [← hw15, wipe_length]) (fun j v e => by rw [← hw15] at e; exact (wipe_some e).1), T1.keep _ _ _ st14 fun b hb o e => (pin' b hb o e).1, fun b hb => ?_, w'⟩
              obtain ⟨o, e, _⟩ := T1.obj _ _ st14 b hb
              exact (pin' b hb o e).2
            cases b1 with
            | false =>
              simp only [Bool.false_eq_true, if_false] at q16 ⊢
              exact fin1 I16 q16
            | true =>
              simp only [if_true] at q16 ⊢
              refine thnF (pe.run _ s16 σ15 H16 _ I16 q16) fun z s17 ⟨yv, H17, I17, r17, c, S0, n0, ey, hD17, hz17, nx⟩ => ?_
              subst ey
              obtain ⟨tk, rfl⟩ := r17
              exact addI_ok (X := X.blk s3 H3 scope ce fp) I17 hD17 hz17 fun s18 I18 => fin1 I18 nx
        exact start_in loop1 (T1.self X.A 0 _ _ _ st11 loop1)
  exact PpSet.codeAny_compStart_set loop (T.self X.A 0 _ _ _ st4 loop)
end
end L3
namespace L3
open PySem PySem.Spec PyProof.Rows L2
/-- what is gathered: how it lies in the heap, what it takes to put one more -/
structure Acc (K : PySem.W.Frag) (G : Gx) (α : Type) where
  At : List Addr → Hp → Addr → α → Prop
  ad : α → RD → (α → Prop) → Prop
  put : Addr → V → Hp → (Hp → Prop) → Prop
  o0 : Addr → HO
  a0 : α
  start : ∀ M H p, At M (upd H p (o0 p)) p a0
  mono : ∀ M H H' p a, At M H p a → (∀ o, H p = some o → H' p = some o) → Same (mask M H) (mask M H') → At M H' p a
  step : ∀ M H p a v r N Nx, p ∈ M → At M H p a → RB K G M H v r.d → (¬ r.bor → Rep K G (mask M H) v r.d) → ad a r N → (∀ o a', N a' → At M (upd H p o) p a' → Nx (upd H p o)) → put p v H Nx
section
variable {K : PySem.W.Frag} {G : Gx} {E : Ent} {α : Type}
def c2In (ad : α → RD → (α → Prop) → Prop) (g : WG) (t : WT) (w : WE) (vs : List Nat) (Q : α → St3 → Prop) : List D → α → St3 → Prop
  | [], acc, δ => Q acc δ
  | x :: r, acc, δ => g x δ fun δ1 => t δ1 fun k δ2 => (k = true → w δ2 fun q δ3 => ad acc q fun acc' => c2In ad g t w vs Q r acc' ⟨wipe3 δ3.sl vs, δ3.n⟩) ∧ (k = false → c2In ad g t w vs Q r acc ⟨wipe3 δ2.sl vs, δ2.n⟩)
def c2Out (ad : α → RD → (α → Prop) → Prop) (g : WG) (t : WT) (wi1 : WI) (g1 : WG) (t1 : WT) (w : WE) (vs vs1 : List Nat) (Q : α → St3 → Prop) : List D → α → St3 → Prop
  | [], acc, δ => Q acc δ
  | x :: r, acc, δ => g x δ fun δ1 => t δ1 fun k δ2 => (k = true → wi1 δ2 fun es δ3 => c2In ad g1 t1 w vs1 (fun acc' δ4 => c2Out ad g t wi1 g1 t1 w vs vs1 Q r acc' ⟨wipe3 δ4.sl vs, δ4.n⟩) es acc ⟨wipe3 δ3.sl vs1, δ3.n⟩) ∧
    (k = false → c2Out ad g t wi1 g1 t1 w vs vs1 Q r acc ⟨wipe3 δ2.sl vs, δ2.n⟩)
def tC2 (o0 : Addr → HO) (put : Addr → V → Hp → (Hp → Prop) → Prop) (wi : TI) (g : TG) (tt : TT) (wi1 : TI) (g1 : TG) (tt1 : TT) (te : TE) (vs vs1 : List Nat) : TE := fun σ H Q => wi σ H fun J H1 => ∀ D, H1 D = none → ∃ W : Nat → Nat → Hp → Prop, (∃ m, W 0 m (upd H1 D (o0 D))) ∧ ∀ i m H, W i m H →
  (J.stop i H ∧ Q (.ref D) H) ∨ (J.go i H ∧ ∃ Nx : Hp → Prop, (∀ H', Nx H' → ∃ m', m' < m ∧ W (i + 1) m' H') ∧ ∀ x H', J.yld i H x H' → g x (wipe σ vs) H' fun σ2 H2 => wipe σ2 vs = wipe σ vs ∧ tt σ2 H2 fun b H3 =>
    if b = true then wi1 σ2 H3 fun J1 H4 => ∃ W1 : Nat → Nat → Hp → Prop, (∃ m, W1 0 m H4) ∧ ∀ j k H, W1 j k H →
      (J1.stop j H ∧ Nx H) ∨ (J1.go j H ∧ ∃ Nx1 : Hp → Prop, (∀ H', Nx1 H' → ∃ k', k' < k ∧ W1 (j + 1) k' H') ∧ ∀ x H', J1.yld j H x H' → g1 x (wipe σ2 vs1) H' fun σ3 H5 => wipe σ3 vs1 = wipe σ2 vs1 ∧ tt1 σ3 H5 fun b H6 =>
        if b = true then te σ3 H6 fun y H7 => put D y H7 Nx1 else Nx1 H6)
    else Nx H3)
theorem wipe_sub {σ : L2.St} {vs vs1 : List Nat} (h : ∀ v ∈ vs1, v ∈ vs) : wipe (wipe σ vs1) vs = wipe σ vs := by
  apply List.ext_getElem?
  intro j
  by_cases q : j ∈ vs
  · rw [wipe_in q, wipe_in q, wipe_length]
  · rw [wipe_get q, wipe_get q, wipe_get fun z => q (h j z)]
theorem SR.put {am : Nat → Addr} {M : List Addr} {σ : L2.St} {δ : St3} {H : Hp} {p : Addr} {o : HO} (S : SR K G E am M σ δ H) (hp : p ∈ M) (hd : p ∉ G.dk) (h0 : E.H0 p = none) (ho : ∀ i, isOwn δ i → am i ≠ p) : SR K G E am M σ δ (upd H p o) where
  len := S.len
  sh := fun j d h => by rw [mask_upd hp]; exact S.sh j d h
  ow := fun j d h => by
    obtain ⟨a1, a2, a3, a4, a5⟩ := S.ow j d h
    refine ⟨a1, a2, a3, a4, a5.to (by rw [mask_upd hp]; exact Same.refl _) fun o e => ?_⟩
    rw [upd_ne (ho j ⟨d, h⟩)]; exact e
  inj := S.inj
  ads := S.ads
  dks := S.dks
  al := fun a ha => by
    by_cases z : a = p
    · subst z; rw [upd_same]; simp
    · rw [upd_ne z]; exact S.al a ha
  base := fun b o hb kb => by
    have ne : b ≠ p := fun z => by subst z; rw [h0] at hb; cases hb
    rw [upd_ne ne]; exact S.base b o hb kb
  di := G.frame _ _ _ (fun a ha o e => by rw [upd_ne fun z => hd (by rw [← z]; exact ha)]; exact e) S.di
  gh := fun g hg => by rw [mask_upd hp]; exact S.gh g hg
  slf := S.slf
set_option maxHeartbeats 4000000 in
/-- the program's loops go as the data's -/
theorem sim_c2 (A : Acc K G α) {ti ti1 : TI} {wi wi1 : WI} {g g1 : TG} {wg wg1 : WG} {us us1 vs vs1 : List Nat} {tt tt1 : TT} {wt wt1 : WT} {te : TE} {we : WE} (hi : ∀ E, SimI K G E ti wi) (hg : SimG K G us g wg) (hu : ∀ u ∈ us, u ∈ vs) (ht : ∀ E, SimT K G E tt wt)
    (hi1 : ∀ E, SimI K G E ti1 wi1) (hg1 : SimG K G us1 g1 wg1) (hu1 : ∀ u ∈ us1, u ∈ vs1) (hv : ∀ u ∈ vs1, u ∈ vs) (ht1 : ∀ E, SimT K G E tt1 wt1) (he : ∀ E, SimE K G E te we)
    (am : Nat → Addr) (M : List Addr) (σ : L2.St) (δ : St3) (H : Hp) (S : SR K G E am M σ δ H) (Qd : α → St3 → Prop) (q : wi δ fun ds δ1 => noOwn δ1.sl vs ∧ c2Out A.ad wg wt wi1 wg1 wt1 we vs vs1 (fun acc δ2 => Qd acc ⟨unwipe δ1.sl δ2.sl vs, δ2.n⟩) ds A.a0 ⟨wipe3 δ1.sl vs, δ1.n⟩) (Q : VK)
    (k : ∀ (p : Addr) (acc : α) (δ' : St3) (H' : Hp), SR K G E am M σ δ' H' → SR K G E am (p :: M) σ δ' H' → p ∉ M → E.H0 p = none → p ∉ G.dk → A.At (p :: M) H' p acc → Ext G am δ H H' → (∀ i, isOwn δ' i → isOwn δ i) → Qd acc δ' → Q (.ref p) H') : tC2 A.o0 A.put ti g tt ti1 g1 tt1 te vs vs1 σ H Q := by
  refine hi E am M σ δ H S _ q _ fun J items gh δ1 H1 S1 e1 o1 ok ⟨no, q⟩ => fun p hp => ?_
  have sm := same_new (o := A.o0 p) hp
  have T0 := S1.more (p := p) hp sm (by rw [upd_same]; simp)
  have T1 := T0.wiped vs
  have pM : p ∉ M := fun z => S1.al p z hp
  have pOwn : ∀ i, isOwn δ1 i → am i ≠ p := fun i ⟨d, hi⟩ z => pM (z ▸ (S1.ow i d hi).2.1)
  have pDk : p ∉ G.dk := fun z => pM (S1.ads p (S1.dks p z))
  have pH0 : E.H0 p = none := by
    cases z : E.H0 p with
    | none => rfl
    | some o => exact absurd (S1.base p o z pDk) (by rw [hp]; simp)
  refine ⟨fun i m H => m = items.length - i ∧ i ≤ items.length ∧ ∃ (δ : St3) (acc : α), SR K G (E.add gh) am (p :: M) (wipe σ vs) δ H ∧ A.At (p :: M) H p acc ∧
      Ext G am δ1 H1 H ∧ (∀ i, isOwn δ i → isOwn δ1 i) ∧ c2Out A.ad wg wt wi1 wg1 wt1 we vs vs1 (fun acc δ2 => Qd acc ⟨unwipe δ1.sl δ2.sl vs, δ2.n⟩) (items.drop i) acc δ,
    ⟨_, rfl, Nat.zero_le _, _, _, T1, A.start _ _ _, Ext.of sm, fun i z => wipe3_own z, q⟩, ?_⟩
  rintro i m H ⟨rfl, hle, δ, acc, S, hx, ex, ox, q⟩
  obtain ⟨j1, j2⟩ := ok _ _ _ _ _ _ S fun p hp => List.mem_append_left _ hp
  by_cases hlt : i < items.length
  · have hd : items[i]? = some items[i] := List.getElem?_eq_getElem hlt
    obtain ⟨g1', g2⟩ := j2 i _ hd
    rw [List.drop_eq_getElem_cons hlt] at q
    refine .inr ⟨g1', fun H' => ∃ (δ : St3) (acc : α), SR K G (E.add gh) am (p :: M) (wipe σ vs) δ H' ∧ A.At (p :: M) H' p acc ∧
      Ext G am δ1 H1 H' ∧ (∀ i, isOwn δ i → isOwn δ1 i) ∧ c2Out A.ad wg wt wi1 wg1 wt1 we vs vs1 (fun acc δ2 => Qd acc ⟨unwipe δ1.sl δ2.sl vs, δ2.n⟩) (items.drop (i + 1)) acc δ, fun H' z => ⟨_, by omega, rfl, hlt, z⟩, fun x H' hy => ?_⟩
    obtain ⟨sm2, rx2⟩ := g2 x H' hy
    have S' := S.grow sm2
    refine hg _ am (p :: M) _ δ H' S' x _ rx2 _ q _ fun σ2 δ2 S2 w2 o2 q => ?_
    have hw : wipe σ2 vs = wipe σ vs := (w2 vs hu).trans wipe_wipe
    refine ⟨hw, ?_⟩
    refine ht _ am (p :: M) σ2 δ2 H' S2 _ q _ fun b δ3 H3 S3 e3 o3 q => ?_
    have keep : ∀ {Ha Hb : Hp} {δa : St3}, Ext G am δa Ha Hb → (∀ i, isOwn δa i → isOwn δ1 i) → ∀ o, Ha p = some o → Hb p = some o := fun e o u hu => e p u hu pDk fun i hi => pOwn i (o i hi)
    have own2 : ∀ i, isOwn δ2 i → isOwn δ1 i := fun i z => ox i (o2 i z)
    have own3 : ∀ i, isOwn δ3 i → isOwn δ1 i := fun i z => own2 i (o3 i z)
    have ext3 : Ext G am δ1 H1 H3 := (ex.trans ox (Ext.of (δ := δ) sm2)).trans own2 e3
    have hx3 : A.At (p :: M) H3 p acc := A.mono _ _ _ _ _ (A.mono _ _ _ _ _ hx (fun o e => sm2 _ _ e) (mask_mono sm2)) (keep e3 own2) (S2.mask e3)
    cases b with
    | false =>
      rw [if_neg Bool.false_ne_true]
      have T := S3.wiped vs
      rw [hw] at T
      exact ⟨_, acc, T, hx3, ext3, fun i z => own3 i (wipe3_own z), q.2 rfl⟩
    | true =>
      rw [if_pos rfl]
      refine hi1 _ am (p :: M) σ2 δ3 H3 S3 _ (q.1 rfl) _ fun J1 es gh1 δ4 H4 S4 e4 o4 ok1 q => ?_
      have own4 : ∀ i, isOwn δ4 i → isOwn δ1 i := fun i z => own3 i (o4 i z)
      have ext4 : Ext G am δ1 H1 H4 := ext3.trans own3 e4
      have hx4 : A.At (p :: M) H4 p acc := A.mono _ _ _ _ _ hx3 (keep e4 own3) (S3.mask e4)
      refine ⟨fun j m H => m = es.length - j ∧ j ≤ es.length ∧ ∃ (δ : St3) (acc : α), SR K G ((E.add gh).add gh1) am (p :: M) (wipe σ2 vs1) δ H ∧ A.At (p :: M) H p acc ∧
        Ext G am δ1 H1 H ∧ (∀ i, isOwn δ i → isOwn δ1 i) ∧ c2In A.ad wg1 wt1 we vs1 (fun acc' δ4 => c2Out A.ad wg wt wi1 wg1 wt1 we vs vs1 (fun acc δ2 => Qd acc ⟨unwipe δ1.sl δ2.sl vs, δ2.n⟩) (items.drop (i + 1)) acc' ⟨wipe3 δ4.sl vs, δ4.n⟩) (es.drop j) acc δ,
        ⟨_, rfl, Nat.zero_le _, _, acc, S4.wiped vs1, hx4, ext4, fun i z => own4 i (wipe3_own z), q⟩, ?_⟩
      rintro j m H ⟨rfl, hle1, δ, acc, S, hx, ex, ox, q⟩
      obtain ⟨k1, k2⟩ := ok1 _ _ _ _ _ _ S fun p hp => List.mem_append_left _ hp
      by_cases hlt1 : j < es.length
      · have hd1 : es[j]? = some es[j] := List.getElem?_eq_getElem hlt1
        obtain ⟨g3, g4⟩ := k2 j _ hd1
        rw [List.drop_eq_getElem_cons hlt1] at q
        refine .inr ⟨g3, fun H' => ∃ (δ : St3) (acc : α), SR K G ((E.add gh).add gh1) am (p :: M) (wipe σ2 vs1) δ H' ∧ A.At (p :: M) H' p acc ∧
          Ext G am δ1 H1 H' ∧ (∀ i, isOwn δ i → isOwn δ1 i) ∧ c2In A.ad wg1 wt1 we vs1 (fun acc' δ4 => c2Out A.ad wg wt wi1 wg1 wt1 we vs vs1 (fun acc δ2 => Qd acc ⟨unwipe δ1.sl δ2.sl vs, δ2.n⟩) (items.drop (i + 1)) acc' ⟨wipe3 δ4.sl vs, δ4.n⟩) (es.drop (j + 1)) acc δ,
          fun H' z => ⟨_, by omega, rfl, hlt1, z⟩, fun x H' hy => ?_⟩
        obtain ⟨sm5, rx5⟩ := g4 x H' hy
        have S' := S.grow sm5
        refine hg1 _ am (p :: M) _ δ H' S' x _ rx5 _ q _ fun σ3 δ5 S5 w5 o5 q => ?_
        have hw1 : wipe σ3 vs1 = wipe σ2 vs1 := (w5 vs1 hu1).trans wipe_wipe
        refine ⟨hw1, ?_⟩
        refine ht1 _ am (p :: M) σ3 δ5 H' S5 _ q _ fun b δ6 H6 S6 e6 o6 q => ?_
        have own5 : ∀ i, isOwn δ5 i → isOwn δ1 i := fun i z => ox i (o5 i z)
        have own6 : ∀ i, isOwn δ6 i → isOwn δ1 i := fun i z => own5 i (o6 i z)
        have ext6 : Ext G am δ1 H1 H6 := (ex.trans ox (Ext.of (δ := δ) sm5)).trans own5 e6
        have hx6 : A.At (p :: M) H6 p acc := A.mono _ _ _ _ _ (A.mono _ _ _ _ _ hx (fun o e => sm5 _ _ e) (mask_mono sm5)) (keep e6 own5) (S5.mask e6)
        cases b with
        | false =>
          rw [if_neg Bool.false_ne_true]
          have T := S6.wiped vs1
          rw [hw1] at T
          exact ⟨_, acc, T, hx6, ext6, fun i z => own6 i (wipe3_own z), q.2 rfl⟩
        | true =>
          rw [if_pos rfl]
          refine he _ am (p :: M) σ3 δ6 H6 S6 _ (q.1 rfl) _ fun y ry δ7 H7 S7 e7 o7 v7 q => ?_
          have own7 : ∀ i, isOwn δ7 i → isOwn δ1 i := fun i z => own6 i (o7 i z)
          have ext7 : Ext G am δ1 H1 H7 := ext6.trans own6 e7
          have hx7 : A.At (p :: M) H7 p acc := A.mono _ _ _ _ _ hx6 (keep e7 own6) (S6.mask e7)
          refine A.step _ _ _ _ _ _ _ _ List.mem_cons_self hx7 (v7.k.rb S7) (fun nb => v7.k.rep nb) q fun o acc' q ha => ?_
          have T := (S7.put (o := o) List.mem_cons_self pDk pH0 fun i z => pOwn i (own7 i z)).wiped vs1
          rw [hw1] at T
          refine ⟨_, acc', T, ha, fun b u hb kb ho => ?_, fun i z => own7 i (wipe3_own z), q⟩
          have ne : b ≠ p := fun z => by subst z; rw [hp] at hb; cases hb
          rw [upd_ne ne]
          exact ext7 b u hb kb ho
      · have e : j = es.length := by omega
        subst e
        rw [List.drop_length] at q
        have T := S.drop.wiped vs
        rw [wipe_sub hv, hw] at T
        exact .inl ⟨k1 _ rfl, _, acc, T, hx, ex, fun i z => ox i (wipe3_own z), q⟩
  · have e : i = items.length := by omega
    subst e
    rw [List.drop_length] at q
    refine .inl ⟨j1 _ rfl, ?_⟩
    have smk : Same (mask (p :: M) H1) (mask (p :: M) H) := mask_same fun b o hb h => ex b o h (fun z => hb (List.mem_cons_of_mem _ (S1.ads b (S1.dks b z)))) fun i ⟨d, hi⟩ z => hb (z ▸ List.mem_cons_of_mem _ (S1.ow i d hi).2.1)
    have B : SR K G (E.add gh) am (p :: M) σ ⟨unwipe δ1.sl δ.sl vs, δ.n⟩ H := S1.back S (fun a z => List.mem_cons_of_mem _ z) no smk fun i d hi v hv => by
      obtain ⟨v', a, b⟩ := S1.sh i d hi
      rw [hv] at a
      cases a
      exact b.mono (mask_new hp (Same.refl _))
    have own : ∀ i, isOwn ⟨unwipe δ1.sl δ.sl vs, δ.n⟩ i → isOwn δ1 i := fun i z => ox i (unwipe_own no z)
    have B2 : SR K G (E.add gh) am M σ ⟨unwipe δ1.sl δ.sl vs, δ.n⟩ H := B.less (fun a z => List.mem_cons_of_mem _ z) S1.ads fun j d h => by
      obtain ⟨d', h'⟩ := own j ⟨d, h⟩
      exact (S1.ow j d' h').2.1
    exact k p acc _ H B2.drop B.drop pM pH0 pDk hx (e1.trans o1 ex) (fun i z => o1 i (own i z)) q
end
end L3
namespace L3
open PySem PySem.Spec PyProof.Rows L2
section
variable {K : PySem.W.Frag} {G : Gx} {E : Ent}
def adL (acc : List D) (q : RD) (N : List D → Prop) : Prop := ¬ q.bor ∧ acc.length < 16777216 ∧ N (acc ++ [q.d])
def accL (K : PySem.W.Frag) (G : Gx) : Acc K G (List D) where
  At := fun M H p acc => ∃ xs, H p = some (.lst xs) ∧ RepAll K G (mask M H) xs acc
  ad := adL
  put := fun p y H Nx => ∃ acc, H p = some (.lst acc) ∧ acc.length < sizeLine ∧ Nx (upd H p (.lst (acc ++ [y])))
  o0 := fun _ => .lst []
  a0 := []
  start := fun M H p => ⟨[], upd_same, rfl⟩
  mono := fun M H H' p a ⟨xs, h, r⟩ k m => ⟨xs, k _ h, r.mono m⟩
  step := fun M H p a v r N Nx hp ⟨xs, h, rx⟩ rb rk ⟨nb, sz, q⟩ k => ⟨xs, h, by rw [rx.length, line16]; exact sz, k _ _ q ⟨xs ++ [v], upd_same, by rw [mask_upd hp]; exact rx.append (RepAll.one (rk nb))⟩⟩
def adS (acc : List Int) (q : RD) (N : List Int → Prop) : Prop := isI q.d fun c => acc.length + 1 < 4096 ∧ N (if c ∈ acc then acc else acc ++ [c])
theorem scan4096 : scanBound = 4096 := rfl
def accS (w : World) (K : PySem.W.Frag) (G : Gx) : Acc K G (List Int) where
  At := fun M H p acc => acc.Nodup ∧ ∃ S n, H p = some (SetO w p S n) ∧ (∀ k, S k = decide (k ∈ acc)) ∧ n = acc.length
  ad := adS
  put := fun p y H Nx => ∃ (c : Int) (S : Int → Bool) (n : Nat), y = .int c ∧ H p = some (SetO w p S n) ∧ n + 1 < scanBound ∧ Nx (upd H p (SetO w p (fun j => S j || decide (j = c)) (if S c = true then n else n + 1)))
  o0 := fun p => SetO w p (fun _ => false) 0
  a0 := []
  start := fun M H p => ⟨List.nodup_nil, _, _, upd_same, fun k => by simp, rfl⟩
  mono := fun M H H' p a ⟨nd, S, n, h, r⟩ k m => ⟨nd, S, n, k _ h, r⟩
  step := fun M H p a v r N Nx hp ⟨nd, S, n, h, hS, hn⟩ rb rk q k => by
    cases er : r.d <;> (try simp only [adS, er] at q) <;> (try exact q.elim)
    rename_i c
    rw [er] at rb
    obtain ⟨sz, q⟩ := (show a.length + 1 < 4096 ∧ N (if c ∈ a then a else a ++ [c]) from q)
    refine ⟨c, S, n, rb.int, h, by rw [hn, scan4096]; exact sz, k _ _ q ?_⟩
    by_cases m : c ∈ a
    · rw [if_pos m]
      refine ⟨nd, _, _, upd_same, fun j => ?_, ?_⟩
      · rw [hS]
        by_cases z : j = c
        · subst z; simp [m]
        · simp [z]
      · rw [hS, if_pos (by simpa using m)]; exact hn
    · rw [if_neg m]
      refine ⟨List.nodup_append.mpr ⟨nd, by simp, fun x hx y hy z => by simp at hy; subst hy; subst z; exact m hx⟩, _, _, upd_same, fun j => ?_, ?_⟩
      · rw [hS]; simp
      · rw [hS, if_neg (by simpa using m)]; simp [hn]
@[simp] def wLc2 (wi : WI) (g : WG) (t : WT) (wi1 : WI) (g1 : WG) (t1 : WT) (w : WE) (vs vs1 : List Nat) : WE := fun δ Q => wi δ fun ds δ1 => noOwn δ1.sl vs ∧ c2Out adL g t wi1 g1 t1 w vs vs1 (fun acc δ2 => Q (.fr (.lst acc)) ⟨unwipe δ1.sl δ2.sl vs, δ2.n⟩) ds [] ⟨wipe3 δ1.sl vs, δ1.n⟩
@[simp] def wSortSc2 (wi : WI) (g : WG) (t : WT) (wi1 : WI) (g1 : WG) (t1 : WT) (w : WE) (vs vs1 : List Nat) : WE := fun δ Q => wi δ fun ds δ1 => noOwn δ1.sl vs ∧ c2Out adS g t wi1 g1 t1 w vs vs1 (fun acc δ2 => acc.length < 64 ∧
  ∀ ns : List Int, ns.Pairwise (· < ·) → (∀ k, k ∈ ns ↔ k ∈ acc) → Q (.fr (.lst (ns.map D.int))) ⟨unwipe δ1.sl δ2.sl vs, δ2.n⟩) ds [] ⟨wipe3 δ1.sl vs, δ1.n⟩
variable {ti ti1 : TI} {wi wi1 : WI} {g g1 : TG} {wg wg1 : WG} {us us1 vs vs1 : List Nat} {tt tt1 : TT} {wt wt1 : WT} {te : TE} {we : WE}
theorem sim_lc2 (hi : ∀ E, SimI K G E ti wi) (hg : SimG K G us g wg) (hu : ∀ u ∈ us, u ∈ vs) (ht : ∀ E, SimT K G E tt wt)
    (hi1 : ∀ E, SimI K G E ti1 wi1) (hg1 : SimG K G us1 g1 wg1) (hu1 : ∀ u ∈ us1, u ∈ vs1) (hv : ∀ u ∈ vs1, u ∈ vs) (ht1 : ∀ E, SimT K G E tt1 wt1) (he : ∀ E, SimE K G E te we) : SimE K G E (tLc2 ti g tt ti1 g1 tt1 te vs vs1) (wLc2 wi wg wt wi1 wg1 wt1 we vs vs1) := fun am M σ δ H S Qd q Q k =>
  sim_c2 (accL K G) hi hg hu ht hi1 hg1 hu1 hv ht1 he am M σ δ H S (fun acc δ2 => Qd (.fr (.lst acc)) δ2) q Q fun p acc δ' H' S' S2 pM p0 pd ha e o h =>
    k (.ref p) (.fr (.lst acc)) δ' H' S' e o ⟨p, rfl, pM, p0, ha, S2⟩ h
theorem sim_sortSc2 (w : World) (hi : ∀ E, SimI K G E ti wi) (hg : SimG K G us g wg) (hu : ∀ u ∈ us, u ∈ vs) (ht : ∀ E, SimT K G E tt wt)
    (hi1 : ∀ E, SimI K G E ti1 wi1) (hg1 : SimG K G us1 g1 wg1) (hu1 : ∀ u ∈ us1, u ∈ vs1) (hv : ∀ u ∈ vs1, u ∈ vs) (ht1 : ∀ E, SimT K G E tt1 wt1) (he : ∀ E, SimE K G E te we) : SimE K G E (tCB (rSortedSet w) (tCons (tSc2 w ti g tt ti1 g1 tt1 te vs vs1) tNil)) (wSortSc2 wi wg wt wi1 wg1 wt1 we vs vs1) := fun am M σ δ H S Qd q Q k => by
    show tC2 (accS w K G).o0 (accS w K G).put ti g tt ti1 g1 tt1 te vs vs1 σ H (fun x H1 => rSortedSet w [x] H1 Q)
    refine sim_c2 (accS w K G) hi hg hu ht hi1 hg1 hu1 hv ht1 he am M σ δ H S (fun acc δ2 => acc.length < 64 ∧ ∀ ns : List Int, ns.Pairwise (· < ·) → (∀ k, k ∈ ns ↔ k ∈ acc) → Qd (.fr (.lst (ns.map D.int))) δ2) q _ fun p acc δ' H' S' S2 pM p0 pd ⟨nd, F, n, hp, hF, hn⟩ e o ⟨h64, h⟩ => ?_
    refine ⟨p, F, n, rfl, hp, by rw [hn]; exact h64, fun ns p' h1 h2 h3 hp' => ?_⟩
    have sm := same_new (o := .lst (ns.map V.int)) hp'
    exact k (.ref p') (.fr (.lst (ns.map D.int))) δ' _ (S'.grow sm) (e.trans o (Ext.of (δ := δ') sm)) o ((rn_lst hp' (RepAll.of_ints ns)).rv S' sm) (h ns h1 fun j => by rw [h2, hF]; simp)
end
section
variable {X : Cx} {G : Gx} {elt tg iter tg1 iter1 : Expr} {ifs ifs1 : List Expr} {scope : Scope} {own : List (Str × Nat)} {vs1 us us1 : List Nat} {pos spos py p : Pos} {ti ti1 : TI} {wi wi1 : WI} {g g1 : TG} {wg wg1 : WG} {tt tt1 : TT} {wt wt1 : WT} {te : TE} {we : WE}
theorem de_lc2 (hc : X.calm = true) (hN : X.N.Nodup) (hi : DI X G tg iter ti wi) (ok : BlkOk X.N X.env.scope scope own) (hv : ∀ i ∈ vs1, i ∈ own.map (·.2))
    (hg : ∀ (s : Shared) (H : Hp) (C : Addr) (cl : List (Str × Addr)) (fp : List Addr), DG (X.blk s H scope (compEnvC scope cl C X.env) fp) G tg us g wg) (ht : ∀ (s : Shared) (H : Hp) (C : Addr) (cl : List (Str × Addr)) (fp : List Addr), DTs (X.blk s H scope (compEnvC scope cl C X.env) fp) G ifs tt wt)
    (hi1 : ∀ (s : Shared) (H : Hp) (C : Addr) (cl : List (Str × Addr)) (fp : List Addr), DI (X.blk s H scope (compEnvC scope cl C X.env) fp) G tg1 iter1 ti1 wi1)
    (hg1 : ∀ (s : Shared) (H : Hp) (C : Addr) (cl : List (Str × Addr)) (fp : List Addr), DG (X.blk s H scope (compEnvC scope cl C X.env) fp) G tg1 us1 g1 wg1) (ht1 : ∀ (s : Shared) (H : Hp) (C : Addr) (cl : List (Str × Addr)) (fp : List Addr), DTs (X.blk s H scope (compEnvC scope cl C X.env) fp) G ifs1 tt1 wt1)
    (he : ∀ (s : Shared) (H : Hp) (C : Addr) (cl : List (Str × Addr)) (fp : List Addr), DE (X.blk s H scope (compEnvC scope cl C X.env) fp) G elt te we) (hu : ∀ u ∈ us, u ∈ own.map (·.2)) (hu1 : ∀ u ∈ us1, u ∈ vs1) (hs : ∀ x, foldedSetIterable iter X.env x = pure x := by intro _; rfl) (hs1 : ∀ env x, foldedSetIterable iter1 env x = pure x := by intro _ _; rfl) :
    DE X G (.ListComp elt [⟨tg, iter, ifs, 0⟩, ⟨tg1, iter1, ifs1, 0⟩] scope pos) (tLc2 ti g tt ti1 g1 tt1 te (own.map (·.2)) vs1) (wLc2 wi wg wt wi1 wg1 wt1 we (own.map (·.2)) vs1) :=
  ⟨pe_lc2 hc hN hi.pi ok hv (fun s H C cl fp => (hg s H C cl fp).pg) (fun s H C cl fp => (ht s H C cl fp).pt) (fun s H C cl fp => (hi1 s H C cl fp).pi) (fun s H C cl fp => (hg1 s H C cl fp).pg) (fun s H C cl fp => (ht1 s H C cl fp).pt) (fun s H C cl fp => (he s H C cl fp).pe) hs hs1,
    fun E => sim_lc2 hi.sim (hg X.s_0 (fun _ => none) 0 [] []).sim hu (ht X.s_0 (fun _ => none) 0 [] []).sim (hi1 X.s_0 (fun _ => none) 0 [] []).sim (hg1 X.s_0 (fun _ => none) 0 [] []).sim hu1 hv (ht1 X.s_0 (fun _ => none) 0 [] []).sim (he X.s_0 (fun _ => none) 0 [] []).sim⟩
theorem de_sortSc2 (hc : X.calm = true) (hN : X.N.Nodup) (hi : DI X G tg iter ti wi) (ok : BlkOk X.N X.env.scope scope own) (hv : ∀ i ∈ vs1, i ∈ own.map (·.2))
    (hg : ∀ (s : Shared) (H : Hp) (C : Addr) (cl : List (Str × Addr)) (fp : List Addr), DG (X.blk s H scope (compEnvC scope cl C X.env) fp) G tg us g wg) (ht : ∀ (s : Shared) (H : Hp) (C : Addr) (cl : List (Str × Addr)) (fp : List Addr), DTs (X.blk s H scope (compEnvC scope cl C X.env) fp) G ifs tt wt)
    (hi1 : ∀ (s : Shared) (H : Hp) (C : Addr) (cl : List (Str × Addr)) (fp : List Addr), DI (X.blk s H scope (compEnvC scope cl C X.env) fp) G tg1 iter1 ti1 wi1)
    (hg1 : ∀ (s : Shared) (H : Hp) (C : Addr) (cl : List (Str × Addr)) (fp : List Addr), DG (X.blk s H scope (compEnvC scope cl C X.env) fp) G tg1 us1 g1 wg1) (ht1 : ∀ (s : Shared) (H : Hp) (C : Addr) (cl : List (Str × Addr)) (fp : List Addr), DTs (X.blk s H scope (compEnvC scope cl C X.env) fp) G ifs1 tt1 wt1)
    (he : ∀ (s : Shared) (H : Hp) (C : Addr) (cl : List (Str × Addr)) (fp : List Addr), DE (X.blk s H scope (compEnvC scope cl C X.env) fp) G elt te we) (hu : ∀ u ∈ us, u ∈ own.map (·.2)) (hu1 : ∀ u ∈ us1, u ∈ vs1) (hgl : Gl X "sorted") (hm : X.mg "sorted" = none)
    (hs : ∀ x, foldedSetIterable iter X.env x = pure x := by intro _; rfl) (hs1 : ∀ env x, foldedSetIterable iter1 env x = pure x := by intro _ _; rfl)
    (he1 : starEach [sc2 elt tg iter tg1 iter1 ifs ifs1 scope spos] X.env = (false, eval (sc2 elt tg iter tg1 iter1 ifs ifs1 scope spos) X.env) :: starEach [] X.env := by rfl) :
    DE X G (.Call (.Name "sorted" p) [.SetComp elt [⟨tg, iter, ifs, 0⟩, ⟨tg1, iter1, ifs1, 0⟩] scope spos] [] pos) (tCB (rSortedSet X.w) (tCons (tSc2 X.w ti g tt ti1 g1 tt1 te (own.map (·.2)) vs1) tNil)) (wSortSc2 wi wg wt wi1 wg1 wt1 we (own.map (·.2)) vs1) :=
  ⟨pe_callB (cr_sortedSet hc) hgl hm rfl (pa_cons (pe_sc2 hc hN hi.pi ok hv (fun s H C cl fp => (hg s H C cl fp).pg) (fun s H C cl fp => (ht s H C cl fp).pt) (fun s H C cl fp => (hi1 s H C cl fp).pi) (fun s H C cl fp => (hg1 s H C cl fp).pg) (fun s H C cl fp => (ht1 s H C cl fp).pt) (fun s H C cl fp => (he s H C cl fp).pe) hs hs1) pa_nil he1) (by decide) (by decide) he1 (by rfl),
    fun E => sim_sortSc2 X.w hi.sim (hg X.s_0 (fun _ => none) 0 [] []).sim hu (ht X.s_0 (fun _ => none) 0 [] []).sim (hi1 X.s_0 (fun _ => none) 0 [] []).sim (hg1 X.s_0 (fun _ => none) 0 [] []).sim hu1 hv (ht1 X.s_0 (fun _ => none) 0 [] []).sim (he X.s_0 (fun _ => none) 0 [] []).sim⟩
end
end L3
namespace L3
open PySem PySem.Spec PyProof.Rows L2
def keyD : Key → D
  | .inl i => .int i
  | .inr s => .str s
@[simp] theorem keyD_0 (i : Int) : keyD (.inl i) = .int i := rfl
@[simp] theorem keyD_1 (i : Str) : keyD (.inr i) = .str i := rfl
def isK : D → (Key → Prop) → Prop
  | .int i, Q => Q (.inl i)
  | .str s, Q => Q (.inr s)
  | _, _ => False
@[simp] theorem isK_0 (i : Int) (Q : Key → Prop) : isK (.int i) Q = Q (.inl i) := rfl
@[simp] theorem isK_1 (i : Str) (Q : Key → Prop) : isK (.str i) Q = Q (.inr i) := rfl
def isDct : D → (List Key → List D → Prop) → Prop
  | .dct ks ds, Q => Q ks ds
  | _, _ => False
@[simp] theorem isDct_0 (ks : List Key) (ds : List D) (Q : List Key → List D → Prop) : isDct (.dct ks ds) Q = Q ks ds := rfl
instance instKeyMem (k : Key) (ks : List Key) : Decidable (k ∈ ks) := decidable_of_iff (∃ x, x ∈ ks ∧ x = k) ⟨fun ⟨_, h, e⟩ => e ▸ h, fun h => ⟨k, h, rfl⟩⟩
section
variable {α : Type}
def dAt : List Key → List α → Key → Option α
  | k' :: ks, d :: ds, k => if k' = k then some d else dAt ks ds k
  | _, _, _ => none
def dKs (ks : List Key) (k : Key) : List Key := if k ∈ ks then ks else ks ++ [k]
def dVs (ks : List Key) (ds : List α) (k : Key) (d : α) : List α := if k ∈ ks then ks.zipWith (fun k' d' => if k' = k then d else d') ds else ds ++ [d]
theorem dAt_map (f : Key → α) (k : Key) : ∀ ks : List Key, dAt ks (ks.map f) k = if k ∈ ks then some (f k) else none
  | [] => rfl
  | k' :: ks => by
    rw [List.map_cons, dAt, dAt_map f k ks]
    by_cases e : k' = k
    · subst e; simp
    · have e' : ¬ k = k' := fun z => e z.symm
      rw [if_neg e]; simp [e']
theorem zipW_map (f : Key → α) (k : Key) (d : α) : ∀ ks : List Key, ks.zipWith (fun k' d' => if k' = k then d else d') (ks.map f) = ks.map fun k' => if k' = k then d else f k'
  | [] => rfl
  | k' :: ks => by rw [List.map_cons, List.zipWith_cons_cons, zipW_map f k d ks, List.map_cons]
theorem dVs_map (f : Key → α) (k : Key) (d : α) (ks : List Key) : dVs ks (ks.map f) k d = (dKs ks k).map fun k' => if k' = k then d else f k' := by
  unfold dVs dKs
  by_cases m : k ∈ ks
  · rw [if_pos m, if_pos m, zipW_map]
  · rw [if_neg m, if_neg m, List.map_append]
    congr 1
    · exact List.map_congr_left fun x hx => by rw [if_neg fun z : x = k => m (z ▸ hx)]
    · simp
theorem dAt_mem {k : Key} : ∀ {ks : List Key} {ds : List α}, ks.length = ds.length → (dAt ks ds k).isSome = decide (k ∈ ks)
  | [], _, _ => by simp [dAt]
  | _ :: _, [], h => by simp at h
  | k' :: ks, d :: ds, h => by
    rw [dAt]
    by_cases e : k' = k
    · subst e; simp
    · have e' : ¬ k = k' := fun z => e z.symm
      rw [if_neg e, dAt_mem (ks := ks) (ds := ds) (by simpa using h)]; simp [e']
theorem val_zip (k : Key) : ∀ (ks : List Key) (xs : List V), valV (ks.zip xs) k = dAt ks xs k
  | [], _ => rfl
  | _ :: _, [] => rfl
  | k' :: ks, x :: xs => by
    rw [List.zip_cons_cons, dAt]
    by_cases e : k' = k
    · rw [valV_pos (p := (k', x)) e, if_pos e]
    · rw [valV_neg (p := (k', x)) e, if_neg e, val_zip k ks xs]
theorem map_zip (k : Key) (y : V) : ∀ (ks : List Key) (xs : List V), (ks.zip xs).map (fun kv => if kv.1 = k then (kv.1, y) else kv) = ks.zip (ks.zipWith (fun k' d' => if k' = k then y else d') xs)
  | [], _ => rfl
  | _ :: _, [] => rfl
  | k' :: ks, x :: xs => by
    rw [List.zip_cons_cons, List.map_cons, List.zipWith_cons_cons, List.zip_cons_cons, map_zip k y ks xs]
    by_cases e : k' = k <;> simp [e]
theorem put_zip {ks : List Key} {xs : List V} (h : ks.length = xs.length) (k : Key) (y : V) : putK (ks.zip xs) k y = (dKs ks k).zip (dVs ks xs k y) := by
  unfold putK
  rw [valV_any, val_zip, dAt_mem h]
  unfold dKs dVs
  by_cases m : k ∈ ks
  · rw [if_pos (by simpa using m), if_pos m, if_pos m, map_zip]
  · rw [if_neg (by simpa using m), if_neg m, if_neg m]
    rw [List.zip_append h]; rfl
theorem dKs_len {ks : List Key} {xs : List α} (h : ks.length = xs.length) (k : Key) (y : α) : (dKs ks k).length = (dVs ks xs k y).length := by
  unfold dKs dVs
  by_cases m : k ∈ ks
  · rw [if_pos m, if_pos m, List.length_zipWith]; omega
  · rw [if_neg m, if_neg m, List.length_append, List.length_append, h]; rfl
theorem dKs_le (ks : List Key) (k : Key) : (dKs ks k).length ≤ ks.length + 1 := by
  unfold dKs
  split <;> simp
end
section
variable {K : PySem.W.Frag} {G : Gx} {H : Hp}
theorem RepAll.at {k : Key} : ∀ {ks : List Key} {xs : List V} {ds : List D} {d : D}, RepAll K G H xs ds → dAt ks ds k = some d → ∃ v, dAt ks xs k = some v ∧ Rep K G H v d
  | [], _, _, _, _, e => by simp [dAt] at e
  | _ :: _, _, [], _, _, e => by simp [dAt] at e
  | k' :: ks, _, d' :: ds, d, ⟨x, xs, h1, h2, h3⟩, e => by
    subst h1
    rw [dAt] at e ⊢
    by_cases z : k' = k
    · rw [if_pos z] at e ⊢; cases e; exact ⟨x, rfl, h2⟩
    · rw [if_neg z] at e ⊢; exact RepAll.at h3 e
theorem RepAll.zipW {k : Key} {y : V} {d : D} (r : Rep K G H y d) : ∀ {ks : List Key} {xs : List V} {ds : List D}, RepAll K G H xs ds → RepAll K G H (ks.zipWith (fun k' d' => if k' = k then y else d') xs) (ks.zipWith (fun k' d' => if k' = k then d else d') ds)
  | [], _, _, _ => by rw [List.zipWith_nil_left, List.zipWith_nil_left]; exact rfl
  | _ :: _, _, [], h => by cases h; rw [List.zipWith_nil_right, List.zipWith_nil_right]; exact rfl
  | k' :: ks, _, d' :: ds, ⟨x, xs, h1, h2, h3⟩ => by
    subst h1
    rw [List.zipWith_cons_cons, List.zipWith_cons_cons]
    refine ⟨_, _, rfl, ?_, RepAll.zipW r h3⟩
    by_cases z : k' = k
    · rw [if_pos z, if_pos z]; exact r
    · rw [if_neg z, if_neg z]; exact h2
theorem RepAll.dput {k : Key} {y : V} {d : D} {ks : List Key} {xs : List V} {ds : List D} (h : RepAll K G H xs ds) (r : Rep K G H y d) : RepAll K G H (dVs ks xs k y) (dVs ks ds k d) := by
  unfold dVs
  by_cases m : k ∈ ks
  · rw [if_pos m, if_pos m]; exact h.zipW r
  · rw [if_neg m, if_neg m]; exact h.append (.one r)
theorem RepAll.keys : ∀ (ks : List Key), RepAll K G H (ks.map kV) (ks.map keyD)
  | [] => rfl
  | .inl i :: ks => ⟨_, _, rfl, rfl, RepAll.keys ks⟩
  | .inr i :: ks => ⟨_, _, rfl, rfl, RepAll.keys ks⟩
theorem isK_of {M : List Addr} {v : V} {d : D} {Q : Key → Prop} (b : RB K G M H v d) (h : isK d Q) : ∃ k, v = kV k ∧ d = keyD k ∧ Q k := by
  cases d <;> first | exact h.elim | skip
  · exact ⟨.inl _, b.int, rfl, h⟩
  · exact ⟨.inr _, b.str, rfl, h⟩
end
def fDGet : F2 := fun d e Q => isDct d fun ks ds => isK e fun k => ∃ x, dAt ks ds k = some x ∧ Q (.sh x)
def fDIn : F2 := fun e d Q => isDct d fun ks ds => isK e fun k => Q (.sh (.bl (decide (k ∈ ks))))
def fDNi : F2 := fun e d Q => isDct d fun ks ds => isK e fun k => Q (.sh (.bl (!decide (k ∈ ks))))
@[simp] theorem fDGet_0 (ks : List Key) (ds : List D) (e : D) (Q : RD → Prop) : fDGet (.dct ks ds) e Q = isK e fun k => ∃ x, dAt ks ds k = some x ∧ Q (.sh x) := rfl
@[simp] theorem fDIn_0 (ks : List Key) (ds : List D) (e : D) (Q : RD → Prop) : fDIn e (.dct ks ds) Q = isK e fun k => Q (.sh (.bl (decide (k ∈ ks)))) := rfl
@[simp] theorem fDNi_0 (ks : List Key) (ds : List D) (e : D) (Q : RD → Prop) : fDNi e (.dct ks ds) Q = isK e fun k => Q (.sh (.bl (!decide (k ∈ ks)))) := rfl
def rDGet : R2 := fun x y H Q => ∃ a v, x = .ref a ∧ DGet H a y (some v) ∧ Q v H
def rDIn : R2 := fun y x H Q => ∃ a o, x = .ref a ∧ DGet H a y o ∧ Q (.bl o.isSome) H
def rDNi : R2 := fun y x H Q => ∃ a o, x = .ref a ∧ DGet H a y o ∧ Q (.bl (!o.isSome)) H
section
variable {X : Cx} {G : Gx} {K : PySem.W.Frag} {E : Ent} {a b e i : Expr} {ta tb te ti : TE} {wa wb we wi : WE} {pos : Pos}
theorem ops_dget : OpS K G rDGet fDGet := fun M H x y d e al bx by' Qd h Q k => by
  cases d <;> first | exact h.elim | skip
  obtain ⟨p, xs, rfl, hp, hl, r⟩ := bx.dct
  obtain ⟨key, rfl, rfl, z, hz, h⟩ := isK_of by' (show isK e _ from h)
  obtain ⟨v, hv, rv⟩ := r.at hz
  exact ⟨p, v, rfl, .inl ⟨_, key, .inl hp, rfl, by rw [val_zip, hv]⟩, k v (.sh z) H (Same.refl _) rv h⟩
theorem ops_din : OpS K G rDIn fDIn := fun M H y x e d al by' bx Qd h Q k => by
  cases d <;> first | exact h.elim | skip
  obtain ⟨p, xs, rfl, hp, hl, r⟩ := bx.dct
  rw [fDIn_0] at h
  obtain ⟨key, rfl, rfl, h2⟩ := isK_of by' h
  refine ⟨p, _, rfl, .inl ⟨_, key, .inl hp, rfl, rfl⟩, k _ _ H (Same.refl _) rn_bl ?_⟩
  rw [val_zip, dAt_mem hl]; exact h2
theorem ops_dni : OpS K G rDNi fDNi := fun M H y x e d al by' bx Qd h Q k => by
  cases d <;> first | exact h.elim | skip
  obtain ⟨p, xs, rfl, hp, hl, r⟩ := bx.dct
  rw [fDNi_0] at h
  obtain ⟨key, rfl, rfl, h2⟩ := isK_of by' h
  refine ⟨p, _, rfl, .inl ⟨_, key, .inl hp, rfl, rfl⟩, k _ _ H (Same.refl _) rn_bl ?_⟩
  rw [val_zip, dAt_mem hl]; exact h2
theorem de_dget (hu : X.A.units + 64 < cLine) (ha : DE X G a ta wa) (hb : DE X G b tb wb) (hs : NoSl b) : DE X G (.Subscript a b pos) (tOp rDGet ta tb) (wOp fDGet wa wb) := ⟨pe_dget (by omega) ha.pe hb.pe hs, fun E => sim_op ops_dget (ha.sim E) (hb.sim E)⟩
theorem de_din (hu : X.A.units + 64 < cLine) (ha : DE X G a ta wa) (hb : DE X G b tb wb) (hm : behindInMarks .In b = false := by rfl) : DE X G (.Compare a [.In] [b] pos) (tOp rDIn ta tb) (wOp fDIn wa wb) := ⟨pe_cmp (pc_din (by omega) ha.pe hb.pe) hm, fun E => sim_op ops_din (ha.sim E) (hb.sim E)⟩
theorem dt_din (hu : X.A.units + 64 < cLine) (ha : DE X G a ta wa) (hb : DE X G b tb wb) (hm : behindInMarks .In b = false := by rfl) : DT X G (.Compare a [.In] [b] pos) (tTest (tOp rDIn ta tb)) (wTest (wOp fDIn wa wb)) := ⟨pt_cmp (pc_din (by omega) ha.pe hb.pe) hm, fun E => sim_test (sim_op ops_din (ha.sim E) (hb.sim E))⟩
theorem de_dni (hu : X.A.units + 64 < cLine) (ha : DE X G a ta wa) (hb : DE X G b tb wb) (hm : behindInMarks .NotIn b = false := by rfl) : DE X G (.Compare a [.NotIn] [b] pos) (tOp rDNi ta tb) (wOp fDNi wa wb) := ⟨pe_cmp (pc_dnotin (by omega) ha.pe hb.pe) hm, fun E => sim_op ops_dni (ha.sim E) (hb.sim E)⟩
theorem dt_dni (hu : X.A.units + 64 < cLine) (ha : DE X G a ta wa) (hb : DE X G b tb wb) (hm : behindInMarks .NotIn b = false := by rfl) : DT X G (.Compare a [.NotIn] [b] pos) (tTest (tOp rDNi ta tb)) (wTest (wOp fDNi wa wb)) := ⟨pt_cmp (pc_dnotin (by omega) ha.pe hb.pe) hm, fun E => sim_test (sim_op ops_dni (ha.sim E) (hb.sim E))⟩
@[simp] def ownDc (δ : St3) (i : Nat) (ks : List Key) (ds : List D) : Prop := δ.sl[i]? = some (some (SV.ow (.dct ks ds)))
@[simp] def wDPut (i : Nat) (wv wk : WE) : WS := fun De δ => wv δ fun r δ1 => ¬ r.bor ∧ (∃ ks0 ds0, ownDc δ1 i ks0 ds0) ∧ wk δ1 fun s δ2 => ∃ ks ds, ownDc δ2 i ks ds ∧ isK s.d fun k => ks.length < 16777216 ∧ De.nx ⟨δ2.sl.set i (some (.ow (.dct (dKs ks k) (dVs ks ds k r.d)))), δ2.n⟩
theorem sim_dput {i : Nat} (h : ∀ E, SimE K G E te we) (h' : ∀ E, SimE K G E ti wi) : SimS K G (sDPut (tVar i) ti te) (wDPut i we wi) := fun E am M σ δ H S D3 q De R => by
  refine h E am M σ δ H S _ q _ fun x r δ1 H1 S1 e1 o1 rv ⟨nb, ⟨ks0, ds0, h0⟩, q⟩ => ?_
  obtain ⟨a1, _⟩ := S1.ow i _ h0
  refine ⟨_, a1, ?_⟩
  refine h' E am M σ δ1 H1 S1 _ q _ fun z s δ2 H2 S2 e2 o2 sv ⟨ks, ds, h1, q⟩ => ?_
  obtain ⟨b1, b2, b3, b4, xs, b5, hl, b6⟩ := S2.ow i _ h1
  obtain ⟨key, rfl, es, sz, q⟩ := isK_of (sv.k.rb S2) q
  have rr := (rv.k.later (δ2 := δ2) S1 e2 (fun b => (nb b).elim)).rep nb
  refine ⟨am i, _, rfl, .inl ⟨_, key, b5, rfl, by rw [List.length_zip, ← hl, Nat.min_self, line16]; exact sz, rfl⟩, R.nx am M _ _ _ (S2.mut (d' := .dct (dKs ks key) (dVs ks ds key r.d)) h1 ⟨dVs ks xs key x, by rw [upd_same, put_zip hl], dKs_len hl key x, ?_⟩ rfl) q⟩
  rw [mask_upd b2]
  exact b6.dput rr
theorem ds_dput (k : Nat) {x : Str} {px pos2 : Pos} (hu : X.A.units + 64 < cLine) (he : DE X G e te we) (hx : PE X (.Name x px) (tVar k)) (hi : DE X G i ti wi) (hs : swapsWith e (some (.Subscript (.Name x px) i pos2)) pos.line X.env = pure false := by rfl) :
    DS X G (.Assign [.Subscript (.Name x px) i pos2] e pos) (sDPut (tVar k) ti te) (wDPut k we wi) := ⟨ps_dput (by omega) hx hi.pe he.pe hs, sim_dput he.sim hi.sim⟩
@[simp] def wDNew : WE := fun δ Q => Q (.fr (.dct [] [])) δ
theorem sim_dnew : SimE K G E tDNewK wDNew := fun am M σ δ H S Qd q Q k p hp => by
  have sm := same_new (o := .dK []) hp
  exact k _ (.fr (.dct [] [])) δ _ (S.grow sm) (Ext.of (δ := δ) sm) (fun _ z => z) (RN.rv (r := .fr (.dct [] [])) S sm ⟨p, rfl, hp, [], upd_same, rfl, rfl⟩) q
theorem de_dnew : DE X G (.Dict [] [] pos) tDNewK wDNew := ⟨pe_dnewK, fun _ => sim_dnew⟩
@[simp] def wPrs : List (WE × WE) → St3 → (List Key → List D → St3 → Prop) → Prop
  | [], δ, Q => Q [] [] δ
  | (wk, wv) :: r, δ, Q => wk δ fun s δ1 => isK s.d fun k => wv δ1 fun v δ2 => ¬ v.bor ∧ wPrs r δ2 fun ks ds δ3 => Q (k :: ks) (v.d :: ds) δ3
def dMerge {α : Type} : List Key → List α → List Key → List α → List Key × List α
  | ks, ds, k :: more, d :: ms => dMerge (dKs ks k) (dVs ks ds k d) more ms
  | ks, ds, _, _ => (ks, ds)
@[simp] theorem dMerge_nil {α : Type} (ks : List Key) (ds : List α) : dMerge ks ds [] [] = (ks, ds) := by simp [dMerge]
@[simp] theorem dMerge_cons {α : Type} (ks : List Key) (ds : List α) (k : Key) (d : α) (more : List Key) (ms : List α) : dMerge ks ds (k :: more) (d :: ms) = dMerge (dKs ks k) (dVs ks ds k d) more ms := by simp [dMerge]
@[simp] def wDisp (ps : List (WE × WE)) : WE := fun δ Q => wPrs ps δ fun ks ds δ1 => ks.length ≤ 15 ∧ Q (.fr (.dct (dMerge [] [] ks ds).1 (dMerge [] [] ks ds).2)) δ1
structure DP (X : Cx) (G : Gx) (pos : Pos) (keys : List (Option Expr)) (values : List Expr) (ts : List (TE × TE)) (ws : List (WE × WE)) : Prop where
  pp : PPs X pos keys values ts
  sim : ∀ (E : Ent) (am : Nat → Addr) (M : List Addr) (σ : L2.St) (δ : St3) (H : Hp), SR X.K G E am M σ δ H → ∀ Qd : List Key → List D → St3 → Prop, wPrs ws δ Qd → ∀ Q : List (V × V) → Hp → Prop,
    (∀ (ks : List Key) (xs : List V) (ds : List D) (δ' : St3) (H' : Hp), SR X.K G E am M σ δ' H' → Ext G am δ H H' → (∀ i, isOwn δ' i → isOwn δ i) → ks.length = xs.length → RepAll X.K G (mask M H') xs ds → Qd ks ds δ' → Q ((ks.zip xs).map fun kv => (kV kv.1, kv.2)) H') → tPairs ts σ H Q
theorem dp_nil : DP X G pos [] [] [] [] := ⟨pps_nil, fun E am M σ δ H S Qd q Q k => k [] [] [] δ H S .refl (fun _ z => z) rfl rfl q⟩
theorem dp_cons {keys : List (Option Expr)} {values : List Expr} {ts : List (TE × TE)} {ws : List (WE × WE)} (ha : DE X G a ta wa) (hb : DE X G b tb wb) (hr : DP X G pos keys values ts ws) : DP X G pos (some a :: keys) (b :: values) ((ta, tb) :: ts) ((wa, wb) :: ws) :=
  ⟨pps_cons ha.pe hb.pe hr.pp, fun E am M σ δ H S Qd q Q k => by
    refine ha.sim E am M σ δ H S _ q _ fun x r δ1 H1 S1 e1 o1 rv q => ?_
    obtain ⟨key, rfl, _, q⟩ := isK_of (rv.k.rb S1) q
    refine hb.sim E am M σ δ1 H1 S1 _ q _ fun y s δ2 H2 S2 e2 o2 sv ⟨nb, q⟩ => ?_
    refine hr.sim E am M σ δ2 H2 S2 _ q _ fun ks xs ds δ3 H3 S3 e3 o3 hl r3 q => ?_
    exact k (key :: ks) (y :: xs) (s.d :: ds) δ3 H3 S3 ((e1.trans o1 e2).trans (fun i z => o1 i (o2 i z)) e3) (fun i z => o1 i (o2 i (o3 i z))) (by simp [hl]) ⟨y, xs, rfl, Rep.mono (S2.mask e3) _ (sv.k.rep nb), r3⟩ q⟩
theorem merge_zip : ∀ (more : List Key) (ms : List V) (ks : List Key) (xs : List V), ks.length = xs.length → more.length = ms.length → mergeK (ks.zip xs) (more.zip ms) = (dMerge ks xs more ms).1.zip (dMerge ks xs more ms).2
  | [], [], ks, xs, _, _ => by rw [dMerge_nil]; rfl
  | [], _ :: _, _, _, _, h => by simp at h
  | _ :: _, [], _, _, _, h => by simp at h
  | k :: more, m :: ms, ks, xs, h, h' => by
    rw [dMerge_cons, ← merge_zip more ms _ _ (dKs_len h k m) (by simpa using h'), List.zip_cons_cons, ← put_zip h]; rfl
theorem merge_keys {α β : Type} : ∀ (more : List Key) (ms : List α) (ns : List β) (ks : List Key) (xs : List α) (ys : List β), more.length = ms.length → more.length = ns.length → (dMerge ks xs more ms).1 = (dMerge ks ys more ns).1
  | [], [], [], ks, xs, ys, _, _ => by rw [dMerge_nil, dMerge_nil]
  | k :: more, m :: ms, n :: ns, ks, xs, ys, h, h' => by
    rw [dMerge_cons, dMerge_cons]
    exact merge_keys more ms ns _ _ _ (by simpa using h) (by simpa using h')
  | [], _ :: _, _, _, _, _, h, _ => by simp at h
  | [], _, _ :: _, _, _, _, _, h => by simp at h
  | _ :: _, [], _, _, _, _, h, _ => by simp at h
  | _ :: _, _, [], _, _, _, _, h => by simp at h
theorem merge_len {α : Type} : ∀ (more : List Key) (ms : List α) (ks : List Key) (xs : List α), ks.length = xs.length → more.length = ms.length → (dMerge ks xs more ms).1.length = (dMerge ks xs more ms).2.length
  | [], [], ks, xs, h, _ => by rw [dMerge_nil]; exact h
  | k :: more, m :: ms, ks, xs, h, h' => by
    rw [dMerge_cons]
    exact merge_len more ms _ _ (dKs_len h k m) (by simpa using h')
  | [], _ :: _, _, _, _, h => by simp at h
  | _ :: _, [], _, _, _, h => by simp at h
theorem RepAll.merge {H : Hp} : ∀ (more : List Key) (ms : List V) (ns : List D) (ks : List Key) (xs : List V) (ys : List D), RepAll K G H ms ns → RepAll K G H xs ys → RepAll K G H (dMerge ks xs more ms).2 (dMerge ks ys more ns).2
  | [], _, _, _, _, _, _, h => by simpa [dMerge] using h
  | _ :: _, _, [], _, _, _, r, h => by cases r; simpa [dMerge] using h
  | k :: more, _, n :: ns, ks, xs, ys, ⟨m, ms, e, r1, r2⟩, h => by
    subst e
    rw [dMerge_cons, dMerge_cons]
    exact RepAll.merge more ms ns _ _ _ r2 (h.dput r1)
theorem sim_disp {keys : List (Option Expr)} {values : List Expr} {ts : List (TE × TE)} {ws : List (WE × WE)} (hp : DP X G pos keys values ts ws) : SimE X.K G E (tDisp ts) (wDisp ws) := fun am M σ δ H S Qd q Q k p hpn => by
  have sm := same_new (o := .dK []) hpn
  have pM : p ∉ M := fun z => S.al p z hpn
  have pDk : p ∉ G.dk := fun z => pM (S.ads p (S.dks p z))
  have pH0 : E.H0 p = none := by
    cases z : E.H0 p with
    | none => rfl
    | some o => exact absurd (S.base p o z pDk) (by rw [hpn]; simp)
  have pOwn : ∀ i, isOwn δ i → am i ≠ p := fun i ⟨d, hi⟩ z => pM (z ▸ (S.ow i d hi).2.1)
  have T := S.more (p := p) hpn sm (by rw [upd_same]; simp)
  refine hp.sim E am (p :: M) σ δ _ T _ q _ fun ks xs ds δ' H' S' e o hl r ⟨h15, q⟩ => ?_
  have h1 : H' p = some (.dK []) := e p _ upd_same pDk fun i hi => pOwn i hi
  refine ⟨h1, ks.zip xs, rfl, by rw [List.length_zip, ← hl, Nat.min_self]; exact h15, ?_⟩
  have S2 := S'.put (o := .dK (mergeK [] (ks.zip xs))) List.mem_cons_self pDk pH0 fun i z => pOwn i (o i z)
  have S3 := S2.less (M' := M) (fun a z => List.mem_cons_of_mem _ z) S.ads fun j d h => by
    obtain ⟨d', h'⟩ := o j ⟨d, h⟩
    exact (S.ow j d' h').2.1
  refine k (.ref p) (.fr (.dct (dMerge [] [] ks ds).1 (dMerge [] [] ks ds).2)) δ' _ S3 (fun b u hb kb ho => ?_) o ⟨p, rfl, pM, pH0, ⟨(dMerge [] [] ks xs).2, ?_, ?_, ?_⟩, S2⟩ q
  · have ne : b ≠ p := fun z => by subst z; rw [hpn] at hb; cases hb
    rw [upd_ne ne]
    exact e b u (sm b u hb) kb ho
  · rw [upd_same]
    have := merge_zip ks xs [] [] rfl hl
    rw [List.zip_nil_left] at this
    rw [this, merge_keys ks xs ds [] [] [] hl (by rw [hl, r.length])]
  · rw [← merge_keys ks xs ds [] [] [] hl (by rw [hl, r.length])]
    exact merge_len ks xs [] [] rfl hl
  · rw [mask_upd List.mem_cons_self]
    exact RepAll.merge ks xs ds [] [] [] r rfl
theorem de_disp {keys : List (Option Expr)} {values : List Expr} {ts : List (TE × TE)} {ws : List (WE × WE)} (hp : DP X G pos keys values ts ws) (hall : keys.all (·.isSome) = true := by rfl) (hl : keys.length = values.length := by rfl) (h0 : keys ≠ [] := by exact List.cons_ne_nil _ _)
    (h15 : keys.length ≤ 15 := by decide) : DE X G (.Dict keys values pos) (tDisp ts) (wDisp ws) := ⟨pe_disp hp.pp hall hl h0 h15, fun E => sim_disp hp⟩
end
def fListD : FC
  | [.dct ks _], Q => Q (.fr (.lst (ks.map keyD)))
  | _, _ => False
@[simp] theorem fListD_0 (ks : List Key) (ds : List D) (Q : RD → Prop) : fListD [.dct ks ds] Q = Q (.fr (.lst (ks.map keyD))) := rfl
def fLenD : FC
  | [.dct ks _], Q => Q (.sh (.int ks.length))
  | _, _ => False
@[simp] theorem fLenD_0 (ks : List Key) (ds : List D) (Q : RD → Prop) : fLenD [.dct ks ds] Q = Q (.sh (.int ks.length)) := rfl
def rListD : List V → Hp → VK → Prop := fun xs H Q => ∃ (a : Addr) (kvs : List (Key × V)), xs = [.ref a] ∧ Rd H a (.dK kvs) ∧ ∀ p, H p = none → Q (.ref p) (upd H p (.lst (kvs.map fun kv => kV kv.1)))
def rLenD : List V → Hp → VK → Prop := fun xs H Q => ∃ a kvs, xs = [V.ref a] ∧ H a = some (.dK kvs) ∧ Q (.int kvs.length) H
section
variable {X : Cx} {G : Gx} {K : PySem.W.Frag}
theorem call_listDK (hc : X.calm = true) : CallR X (.type "list") rListD := call_listD hc
theorem call_lenDK : CallR X (.builtin "len") rLenD := call_lenD
theorem calls_listD : CallS K G rListD fListD := fun M H vs ds al b Qd h Q k => by
  match ds, h with
  | [.dct ks es], h =>
    obtain ⟨v, rfl, b1⟩ := b.one
    obtain ⟨p, xs, rfl, hp, hl, r⟩ := b1.dct
    refine ⟨p, _, rfl, .inl hp, fun l hq => ?_⟩
    have e : (ks.zip xs).map (fun kv => kV kv.1) = ks.map kV := by
      have : (ks.zip xs).map (fun kv => kV kv.1) = ((ks.zip xs).map (·.1)).map kV := by rw [List.map_map]; rfl
      rw [this, List.map_fst_zip (by omega)]
    rw [e]
    exact k _ _ _ (same_new hq) (rn_lst hq (RepAll.keys ks)) h
theorem calls_lenD : CallS K G rLenD fLenD := fun M H vs ds al b Qd h Q k => by
  match ds, h with
  | [.dct ks es], h =>
    obtain ⟨v, rfl, b1⟩ := b.one
    obtain ⟨p, xs, rfl, hp, hl, r⟩ := b1.dct
    refine ⟨p, _, rfl, hp, ?_⟩
    rw [List.length_zip, ← hl, Nat.min_self]
    exact k _ _ H (Same.refl _) rn_int h
end
end L3
namespace L3
open PySem PySem.Spec PyProof.Rows L2
section
variable {α : Type} {ad : α → RD → (α → Prop) → Prop} {g g1 : WG} {t t1 : WT} {wi1 : WI} {w : WE} {vs vs1 : List Nat} {Q : α → St3 → Prop}
theorem c2In_of (I : Nat → α → St3 → Prop) : ∀ (ds : List D) (k : Nat) (acc : α) (δ : St3), I k acc δ →
    (∀ (i : Nat) (d : D) (acc : α) (δ : St3), ds[i]? = some d → I (k + i) acc δ → ∀ N : α → St3 → Prop, (∀ acc δ, I (k + i + 1) acc δ → N acc δ) → g d δ fun δ1 => t δ1 fun b δ2 =>
      (b = true → w δ2 fun q δ3 => ad acc q fun acc' => N acc' ⟨wipe3 δ3.sl vs, δ3.n⟩) ∧ (b = false → N acc ⟨wipe3 δ2.sl vs, δ2.n⟩)) →
    (∀ acc δ, I (k + ds.length) acc δ → Q acc δ) → c2In ad g t w vs Q ds acc δ
  | [], k, acc, δ, h0, _, hn => hn acc δ h0
  | d :: ds, k, acc, δ, h0, hs, hn => hs 0 d acc δ rfl h0 _ fun acc1 δ1 h1 => c2In_of I ds (k + 1) acc1 δ1 h1 (fun i d' acc' δ' hd hi N hN => hs (i + 1) d' acc' δ' hd (by rw [show k + (i + 1) = k + 1 + i by omega]; exact hi) N fun acc2 δ2 h2 => hN acc2 δ2 (by rw [show k + 1 + i + 1 = k + (i + 1) + 1 by omega]; exact h2))
      fun acc2 δ2 h2 => hn acc2 δ2 (by rw [show k + (d :: ds).length = k + 1 + ds.length by simp only [List.length_cons]; omega]; exact h2)
theorem c2In_inv {ds : List D} {acc : α} {δ : St3} (I : Nat → α → St3 → Prop) (h0 : I 0 acc δ)
    (hs : ∀ (i : Nat) (d : D) (acc : α) (δ : St3), ds[i]? = some d → I i acc δ → ∀ N : α → St3 → Prop, (∀ acc δ, I (i + 1) acc δ → N acc δ) → g d δ fun δ1 => t δ1 fun b δ2 =>
      (b = true → w δ2 fun q δ3 => ad acc q fun acc' => N acc' ⟨wipe3 δ3.sl vs, δ3.n⟩) ∧ (b = false → N acc ⟨wipe3 δ2.sl vs, δ2.n⟩))
    (hn : ∀ acc δ, I ds.length acc δ → Q acc δ) : c2In ad g t w vs Q ds acc δ :=
  c2In_of I ds 0 acc δ h0 (fun i d acc δ hd hi N hN => hs i d acc δ hd (by rwa [Nat.zero_add] at hi) N fun acc δ h => hN acc δ (by rwa [Nat.zero_add])) fun acc δ h => hn acc δ (by rwa [Nat.zero_add] at h)
theorem c2Out_of (I : Nat → α → St3 → Prop) : ∀ (ds : List D) (k : Nat) (acc : α) (δ : St3), I k acc δ →
    (∀ (i : Nat) (d : D) (acc : α) (δ : St3), ds[i]? = some d → I (k + i) acc δ → ∀ N : α → St3 → Prop, (∀ acc δ, I (k + i + 1) acc δ → N acc δ) → g d δ fun δ1 => t δ1 fun b δ2 =>
      (b = true → wi1 δ2 fun es δ3 => c2In ad g1 t1 w vs1 (fun acc' δ4 => N acc' ⟨wipe3 δ4.sl vs, δ4.n⟩) es acc ⟨wipe3 δ3.sl vs1, δ3.n⟩) ∧ (b = false → N acc ⟨wipe3 δ2.sl vs, δ2.n⟩)) →
    (∀ acc δ, I (k + ds.length) acc δ → Q acc δ) → c2Out ad g t wi1 g1 t1 w vs vs1 Q ds acc δ
  | [], k, acc, δ, h0, _, hn => hn acc δ h0
  | d :: ds, k, acc, δ, h0, hs, hn => hs 0 d acc δ rfl h0 _ fun acc1 δ1 h1 => c2Out_of I ds (k + 1) acc1 δ1 h1 (fun i d' acc' δ' hd hi N hN => hs (i + 1) d' acc' δ' hd (by rw [show k + (i + 1) = k + 1 + i by omega]; exact hi) N fun acc2 δ2 h2 => hN acc2 δ2 (by rw [show k + 1 + i + 1 = k + (i + 1) + 1 by omega]; exact h2))
      fun acc2 δ2 h2 => hn acc2 δ2 (by rw [show k + (d :: ds).length = k + 1 + ds.length by simp only [List.length_cons]; omega]; exact h2)
theorem c2Out_inv {ds : List D} {acc : α} {δ : St3} (I : Nat → α → St3 → Prop) (h0 : I 0 acc δ)
    (hs : ∀ (i : Nat) (d : D) (acc : α) (δ : St3), ds[i]? = some d → I i acc δ → ∀ N : α → St3 → Prop, (∀ acc δ, I (i + 1) acc δ → N acc δ) → g d δ fun δ1 => t δ1 fun b δ2 =>
      (b = true → wi1 δ2 fun es δ3 => c2In ad g1 t1 w vs1 (fun acc' δ4 => N acc' ⟨wipe3 δ4.sl vs, δ4.n⟩) es acc ⟨wipe3 δ3.sl vs1, δ3.n⟩) ∧ (b = false → N acc ⟨wipe3 δ2.sl vs, δ2.n⟩))
    (hn : ∀ acc δ, I ds.length acc δ → Q acc δ) : c2Out ad g t wi1 g1 t1 w vs vs1 Q ds acc δ :=
  c2Out_of I ds 0 acc δ h0 (fun i d acc δ hd hi N hN => hs i d acc δ hd (by rwa [Nat.zero_add] at hi) N fun acc δ h => hN acc δ (by rwa [Nat.zero_add])) fun acc δ h => hn acc δ (by rwa [Nat.zero_add] at h)
end
@[simp] theorem adS_int (acc : List Int) (c : Int) (N : List Int → Prop) : adS acc (.sh (.int c)) N = (acc.length + 1 < 4096 ∧ N (if c ∈ acc then acc else acc ++ [c])) := rfl
@[simp] theorem adL_sh (acc : List D) (d : D) (N : List D → Prop) : adL acc (.sh d) N = (acc.length < 16777216 ∧ N (acc ++ [d])) := by simp [adL]
theorem putN {acc : List Int} {c : Int} (h : acc.Nodup) : (if c ∈ acc then acc else acc ++ [c]).Nodup := by
  split
  · exact h
  · rename_i m
    exact List.nodup_append.mpr ⟨h, by simp, fun x hx y hy z => by simp at hy; subst hy; subst z; exact m hx⟩
theorem putM {acc : List Int} {c j : Int} : (j ∈ if c ∈ acc then acc else acc ++ [c]) ↔ j ∈ acc ∨ j = c := by
  split
  · rename_i m
    constructor
    · exact .inl
    · rintro (h | rfl)
      · exact h
      · exact m
  · simp
theorem keyD_inl (ns : List Int) : (ns.map (Sum.inl : Int → Key)).map keyD = ns.map D.int := by rw [List.map_map]; rfl
theorem dKs_inl (ns : List Int) (c : Int) : dKs (ns.map (Sum.inl : Int → Key)) (.inl c) = (if c ∈ ns then ns else ns ++ [c]).map Sum.inl := by
  unfold dKs
  by_cases m : c ∈ ns
  · rw [if_pos m, if_pos (List.mem_map.mpr ⟨c, m, rfl⟩)]
  · rw [if_neg m, if_neg fun z => m (by obtain ⟨x, hx, e⟩ := List.mem_map.mp z; cases e; exact hx), List.map_append]; rfl
theorem mem_inl (ns : List Int) (c : Int) : (Sum.inl c : Key) ∈ ns.map (Sum.inl : Int → Key) ↔ c ∈ ns :=
  ⟨fun z => by obtain ⟨x, hx, e⟩ := List.mem_map.mp z; cases e; exact hx, fun m => List.mem_map.mpr ⟨c, m, rfl⟩⟩
@[simp] theorem flat_ints (ns : List Int) : (ns.map D.int).all D.flat = true := by simp [D.flat]
@[simp] theorem inD_ints (i : Int) (ns : List Int) : inD (.int i) (ns.map D.int) = decide (i ∈ ns) := by
  unfold inD inV
  rw [List.map_map]
  induction ns with
  | nil => simp
  | cons j ns ih =>
    rw [List.map_cons, List.any_cons, ih]
    have : eqV ((D.v ∘ D.int) j) (D.int i).v = decide (j = i) := by
      show eqV (.int j) (.int i) = _
      simp only [eqV]; by_cases e : j = i <;> simp [e]
    rw [this]
    by_cases e : j = i
    · subst e; simp
    · have e' : ¬ i = j := fun z => e z.symm
      simp [e, e']
theorem ShAll.mapB {α : Type} {g : α → D} {h l : Nat} : ∀ {as : List α}, (∀ a ∈ as, ∃ p, Sh (g a) p h l) → ∃ ps, ShAll (as.map g) ps h ((l + 2) * as.length)
  | [], _ => ⟨[], ShAll.nil.mono (Nat.zero_le _) (by simp)⟩
  | a :: as, hh => by
    obtain ⟨ps, q⟩ := ShAll.mapB (as := as) fun b hb => hh b (List.mem_cons_of_mem _ hb)
    obtain ⟨p, sh⟩ := hh a List.mem_cons_self
    refine ⟨_, (ShAll.cons sh q (Nat.le_refl _)).mono (Nat.le_refl _) ?_⟩
    rw [List.length_cons, Nat.mul_add]; omega
end L3
namespace L3
open PySem PySem.Spec PyProof.Rows L2
section
variable {X : Cx} {G : Gx} {K : PySem.W.Frag} {E : Ent} {a b e : Expr} {ta tb te : TE} {wa wb we : WE} {p p2 pos pos2 : Pos}
theorem sim_rg2 {put : List V → HO} {fr : List D → RD} (hput : ∀ (M : List Addr) (H : Hp) (l : Addr) (xs : List V) (ds : List D), (∀ a ∈ M, H a ≠ none) → H l = none → RepAll K G (mask M H) xs ds → RN K G M H (upd H l (put xs)) (.ref l) (fr ds)) (ha : ∀ E, SimE K G E ta wa) (hb : ∀ E, SimE K G E tb wb) :
    SimE K G E (fun σ H Q => tRg2 ta tb σ H fun a b H1 => RgOk a b ∧ ∀ q, H1 q = none → Q (.ref q) (upd H1 q (put (rgV a b)))) (fun δ Q => wa δ fun r δ1 => wb δ1 fun s δ2 => (r.bor → δ2.sl = δ1.sl) ∧ isI r.d fun i => isI s.d fun j => RgOk i j ∧ Q (fr (rng i (j - i).toNat)) δ2) := fun am M σ δ H S Qd q Q k => by
  refine ha E am M σ δ H S _ q _ fun v r δ1 H1 S1 e1 o1 rv q => ?_
  refine hb E am M σ δ1 H1 S1 _ q _ fun u s δ2 H2 S2 e2 o2 sv ⟨st, q⟩ => ?_
  obtain ⟨i, _, rfl, q⟩ := isI_of S2 (rv.k.later S1 e2 st) q
  obtain ⟨j, _, rfl, rg, q⟩ := isI_of S2 sv.k q
  refine ⟨i, j, rfl, rfl, rg, fun l hl => ?_⟩
  exact k _ _ δ2 _ (S2.grow (same_new hl)) ((e1.trans o1 e2).trans (fun i z => o1 i (o2 i z)) (Ext.of (δ := δ2) (same_new hl))) (fun i z => o1 i (o2 i z)) ((hput M H2 l _ _ S2.al hl (rep_rg i j)).rv S2 (same_new hl)) q
theorem de_lrg2 (ha : DE X G a ta wa) (hb : DE X G b tb wb) (hm : X.mg "list" = none) (hm2 : X.mg "range" = none) (hc : X.calm = true := by rfl) (g1 : Gl X "list" := by rfl) (g2 : Gl X "range" := by rfl) (na : starEach [a, b] X.env = (false, eval a X.env) :: starEach [b] X.env := by rfl) (nb : starEach [b] X.env = (false, eval b X.env) :: starEach [] X.env := by rfl)
    (hp : (backTo pos (starEach [b] X.env)).any (·.1) = false := by rfl) (nr : starEach [.Call (.Name "range" p) [a, b] [] pos] X.env = (false, eval (.Call (.Name "range" p) [a, b] [] pos) X.env) :: starEach [] X.env := by rfl) :
    DE X G (.Call (.Name "list" p2) [.Call (.Name "range" p) [a, b] [] pos] [] pos2) (tLstRg (tRg2 ta tb)) (wLRg2 wa wb) :=
  ⟨pe_listRg hc g1 hm (prg_2 g2 hm2 ha.pe hb.pe na nb hp) nr, fun E => sim_rg2 (put := .lst) (fr := fun ds => .fr (.lst ds)) (fun M H l xs ds _ hl r => rn_lst hl r) ha.sim hb.sim⟩
theorem de_trg2 (ha : DE X G a ta wa) (hb : DE X G b tb wb) (hm : X.mg "tuple" = none) (hm2 : X.mg "range" = none) (hc : X.calm = true := by rfl) (g1 : Gl X "tuple" := by rfl) (g2 : Gl X "range" := by rfl) (na : starEach [a, b] X.env = (false, eval a X.env) :: starEach [b] X.env := by rfl) (nb : starEach [b] X.env = (false, eval b X.env) :: starEach [] X.env := by rfl)
    (hp : (backTo pos (starEach [b] X.env)).any (·.1) = false := by rfl) (nr : starEach [.Call (.Name "range" p) [a, b] [] pos] X.env = (false, eval (.Call (.Name "range" p) [a, b] [] pos) X.env) :: starEach [] X.env := by rfl) :
    DE X G (.Call (.Name "tuple" p2) [.Call (.Name "range" p) [a, b] [] pos] [] pos2) (tTupRg (tRg2 ta tb)) (wTRg2 wa wb) :=
  ⟨pe_tupRg hc g1 hm (prg_2 g2 hm2 ha.pe hb.pe na nb hp) nr, fun E => sim_rg2 (put := .tup) (fr := fun ds => .sh (.tup ds)) (fun M H l xs ds al hl r => rn_tup al hl r) ha.sim hb.sim⟩
@[simp] def wAugI (i : Nat) (f : Int → Int → Int) (w : WE) : WS := fun De δ => ∃ d, δ.sl[i]? = some (some (.sh d)) ∧ isI d fun x => w δ fun r δ1 => isI r.d fun y => De.nx ⟨δ1.sl.set i (some (.sh (.int (f x y)))), δ1.n⟩
theorem sim_augI {i : Nat} {f : Int → Int → Int} (h : ∀ E, SimE K G E te we) : SimS K G (tAug i te (ipI f)) (wAugI i f we) := fun E am M σ δ H S D3 ⟨d, hd, q⟩ De R => by
  obtain ⟨v, hv, rv⟩ := S.sh i d hd
  cases d <;> first | exact q.elim | skip
  have ev : v = .int _ := rv
  subst ev
  refine ⟨_, hv, ?_⟩
  refine h E am M σ δ H S _ q _ fun u r δ1 H1 S1 e1 o1 sv q => ?_
  obtain ⟨j, _, rfl, q⟩ := isI_of S1 sv.k q
  exact ⟨_, _, rfl, rfl, R.nx am M _ _ H1 (S1.set_sh (d := .int _) rfl) q⟩
theorem ds_augA (i : Nat) {x : Str} {px : Pos} (hN : X.N.Nodup) (he : DE X G e te we) (hi : X.N[i]? = some x := by rfl) (hx : Loc X.env.scope x := by first | exact Or.inl rfl | exact Or.inr rfl) (hf : X.fn x = true ∨ X.env.scope.names.lookup x = some .local := by first | exact .inl rfl | exact .inr rfl) :
    DS X G (.AugAssign (.Name x px) .Add e pos) (tAug i te (ipI fun i j => i + j)) (wAugI i (fun i j => i + j) we) := ⟨ps_aug hN hi hx he.pe ip_add hf, sim_augI he.sim⟩
theorem ds_augS (i : Nat) {x : Str} {px : Pos} (hN : X.N.Nodup) (he : DE X G e te we) (hi : X.N[i]? = some x := by rfl) (hx : Loc X.env.scope x := by first | exact Or.inl rfl | exact Or.inr rfl) (hf : X.fn x = true ∨ X.env.scope.names.lookup x = some .local := by first | exact .inl rfl | exact .inr rfl) :
    DS X G (.AugAssign (.Name x px) .Sub e pos) (tAug i te (ipI fun i j => i - j)) (wAugI i (fun i j => i - j) we) := ⟨ps_aug hN hi hx he.pe ip_sub hf, sim_augI he.sim⟩
@[simp] def wRevL (w : WE) : WE := fun δ Q => w δ fun r δ1 => ∃ ds, r.d = .lst ds ∧ Q (.fr (.lst ds.reverse)) δ1
theorem de_revL {k : Nat} {p1 p2 p3 : Pos} (K : PySem.W.Frag) (he : DE X G e te we) (hK : X.K = K := by rfl) : DE X G (.Subscript e (.Slice none none (some (.UnaryOp .USub (.Constant (.int 1) k p1) p2)) p3) pos) (tRevL K te) (wRevL we) := by
  subst hK
  refine ⟨pe_revL he.pe, fun E am M σ δ H S Qd q Q k => he.sim E am M σ δ H S _ q _ fun v r δ1 H1 S1 e1 o1 rv ⟨ds, er, q⟩ => ?_⟩
  have rb := rv.k.rb S1
  rw [er] at rb
  obtain ⟨p, xs, rfl, hp, r⟩ := rb.lst
  refine ⟨p, xs, rfl, SqL.of hp, fun l hl => ?_⟩
  exact k _ _ δ1 _ (S1.grow (same_new hl)) (e1.trans o1 (Ext.of (δ := δ1) (same_new hl))) o1 ((rn_lst hl r.reverse).rv S1 (same_new hl)) q
end
end L3
namespace L3
open PySem PySem.Spec PyProof.Rows L2
def rBop (C : Addr) (sp : Sp) (Ex : XK) : R2 := fun x y H Q => (∃ a dx fs, x = .ref a ∧ H a = some (.ins C dx fs)) ∧ (∃ b dx fs, y = .ref b ∧ H b = some (.ins C dx fs)) ∧ sp [x, y] H (fun v H3 => (∃ p, v = .ref p) ∧ Q v H3) Ex
section
variable {X : Cx} {CX : CXT} {k : Nat} {f C : Addr} {fd : FuncData} {ps : List Str} {sp : Sp} {ds : List Value} {Ex : XK} {op : Operator} {mn : Str}
theorem op_bop (hsf : PySem.W.selfFirst X.K C = true) (hs : PySem.W.findIn X.K (.ref C) (PySem.dunder op.info.2) = some (some (.ref f))) (hf : PySem.W.isFn X.K (.ref f) = true) (F : FnG X.prog X.w X.K X.mg X.base CX k f fd ps sp) (hr : Room k X.A) (hg : X.A.guards = some [])
    (hb : KB X.K fd ps 2 [] [0, 1] []) (hx : Passes CX X Ex) : OpR X (binaryOp op) (rBop C sp Ex) := by
  intro pins s σ H x y v u Q I rx ry ⟨⟨a, dx, fs, ex, ha⟩, ⟨b, dx', fs', ey, hb'⟩, h⟩
  subst ex ey
  obtain rfl : v = Value.ref a := rx
  obtain rfl : u = Value.ref b := ry
  obtain ⟨ox, od, J, _⟩ := ins_at I ha
  obtain ⟨ox', od', J', _⟩ := ins_at I hb'
  have X' := I.kIn
  obtain ⟨cd, hcd, hm⟩ := PySem.W.any_some hsf
  obtain ⟨rest, hm⟩ : ∃ rest, cd.mro = .ref C :: rest := by
    cases q : cd.mro with
    | nil => rw [q] at hm; cases hm
    | cons a r => rw [q] at hm; exact ⟨r, by rw [List.head?_cons] at hm; cases (beq_iff_eq.mp hm); rfl⟩
  have bt := hb s [.ref a, .ref b] [] X' rfl rfl
  have run : wpAny (model X.prog X.w) X.A (call (.ref f) [.ref a, .ref b]) (EP X pins σ fun v H3 => (∃ p, v = .ref p) ∧ Q v H3) X.xe s :=
    wp_of_code (α := Unit) (F.call (vs := [.ref a, .ref b]) hr hg hx I (fun _ => bt) (.cons (show RelV (V.ref a) (Value.ref a) from rfl) (.cons (show RelV (V.ref b) (Value.ref b) from rfl) .nil)) h)
  unfold binaryOp
  refine wpAny_holding (wpAny_bind ?_)
  unfold binaryOp1
  refine wpAny_bind (J.type.here (wpAny_bind (J'.type.here (wpAny_bind ((PySem.W.fills_K X' hcd hm hs).here ?_)))))
  simp only [beq_self_eq_true, if_true]
  refine wpAny_bind (wpAny_pure ?_)
  simp only [Bool.and_false, Bool.false_eq_true, if_false, Bool.false_and]
  refine wpAny_bind (wpAny_pure ?_)
  simp only [Bool.false_eq_true, if_false]
  refine wpAny_bind (m := tryMethod (.ref a) _ (.ref b)) ?_
  unfold tryMethod
  refine wpAny_bind (PySem.W.special_fn X' J hs (beq_iff_eq.mp hf) (wpAny_mono run (fun r s' hv => ?_) fun _ _ e => e))
  obtain ⟨v, H', I', rv, ⟨p, ev⟩, q⟩ := hv
  subst ev
  obtain rfl : r = Value.ref p := rv
  exact wpAny_pure (wpAny_pure (wpAny_pure ⟨.ref p, H', I', rfl, q⟩))
end
@[simp] def wBop (t : Nat) (C : Con) (wa wb : WE) : WE := fun δ Q => wa δ fun r δ1 => wb δ1 fun s δ2 => ¬ r.bor ∧ ¬ s.bor ∧ (∃ fs, r.d = .ins t fs) ∧ (∃ fs, s.d = .ins t fs) ∧ C [r.d, s.d] δ2.n fun d n' => (∃ t' fs, d = .ins t' fs) ∧ Q (.sh d) ⟨δ2.sl, n'⟩
section
variable {X : Cx} {K : PySem.W.Frag} {E : Ent} {Gf : Addr → Addr → Gx} {a c : Addr} {C : Con} {ta tb : TE} {wa wb : WE} {t : Nat} {Ex : XK}
theorem sim_bop (ha : SimE K (Gf a c) E ta wa) (hb : SimE K (Gf a c) E tb wb) : SimE K (Gf a c) E (tOp (rBop ((Gf a c).cls t) (lift K Gf C) Ex) ta tb) (wBop t C wa wb) := fun am M σ δ H S Qd q Q k => by
  refine ha am M σ δ H S _ q _ fun x r δ1 H1 S1 e1 o1 rv q => ?_
  refine hb am M σ δ1 H1 S1 _ q _ fun y s δ2 H2 S2 e2 o2 sv ⟨n1, n2, ⟨fs, ef⟩, ⟨fs', ef'⟩, hc⟩ => ?_
  have r1 := (rv.k.later (δ2 := δ2) S1 e2 (fun b => (n1 b).elim)).rep n1
  have r2 := sv.k.rep n2
  have i1 := r1
  have i2 := r2
  rw [ef] at i1
  rw [ef'] at i2
  obtain ⟨p, dx, xs, ep, hp, _⟩ := i1
  obtain ⟨p', dx', xs', ep', hp', _⟩ := i2
  refine ⟨⟨p, dx, _, ep, mask_le _ _ hp⟩, ⟨p', dx', _, ep', mask_le _ _ hp'⟩, ?_⟩
  refine lift_use (Qd := fun r δ' => (∃ t' fs, r.d = .ins t' fs) ∧ Qd r δ') (vs := [x, y]) (ds := [r.d, s.d]) S2 (RepAll.cons r1 (RepAll.cons r2 (show RepAll _ _ _ [] [] from rfl))) hc fun v r δ' H' S' e' o' rv ⟨⟨t', fs, er⟩, hq⟩ => ⟨?_, ?_⟩
  · have rb := rv.k.rb S'
    rw [er] at rb
    obtain ⟨p, _, _, e, _⟩ := rb.ins
    exact ⟨p, e⟩
  · exact k v r δ' H' S' ((e1.trans o1 e2).trans (fun i z => o1 i (o2 i z)) e') (fun i z => o1 i (o2 i (o' i z))) rv hq
theorem de_bop {op : Operator} {x y : Expr} {pos : Pos} {k : Nat} {f : Addr} {fd : FuncData} {ps : List Str} (K : PySem.W.Frag) (t : Nat) (hsf : PySem.W.selfFirst K ((Gf a c).cls t) = true) (hs : PySem.W.findIn K (.ref ((Gf a c).cls t)) (PySem.dunder op.info.2) = some (some (.ref f))) (hf : PySem.W.isFn K (.ref f) = true)
    (F : FnG X.prog X.w K X.mg X.base CX0 k f fd ps (lift K Gf C)) (hr : Room k X.A) (hg : X.A.guards = some []) (hb : KB K fd ps 2 [] [0, 1] []) (hx : DE X (Gf a c) x ta wa) (hy : DE X (Gf a c) y tb wb) (hK : X.K = K := by rfl) :
    DE X (Gf a c) (.BinOp x op y pos) (tOp (rBop ((Gf a c).cls t) (lift K Gf C) E0) ta tb) (wBop t C wa wb) := by
  subst hK
  exact ⟨pe_op (op_bop hsf hs hf F hr hg hb pass0) hx.pe hy.pe, fun E => sim_bop (hx.sim E) (hy.sim E)⟩
end
end L3
namespace L3
open PySem PySem.Spec PyProof.Rows L2
section
variable {X : Cx} {CX : CXT} {k n m : Nat} {f C g q : Addr} {fd : FuncData} {ps ks : List Str} {sp : Sp} {dvs : List V} {ds : List Value} {E : XK} {x mn : Str} {p pos apos : Pos} {e o fe : Expr} {es : List Expr} {kws : List Keyword} {ta : TE} {t tk : TA} {perm : List Nat} {mc : Value} {pa : Addr}
def tMakeE (C : Addr) (sp : Sp) (n m : Nat) (perm : List Nat) (dvs : List V) (E : XK) (ta : TE) (t tk : TA) : TE := fun σ H Q => ta σ H fun x H1 => x = .ref C ∧ tMakeP C sp n m perm dvs E t tk σ H1 Q
theorem pg_makeE (he : PE X fe ta) (M : Mk X.K C f) (F : FnG X.prog X.w X.K X.mg X.base CX k f fd ps sp) (hr : Room (k + 1) X.A) (hg : X.A.guards = some []) (hb : KBm X.K fd ps n ks perm ds) (hd : Vals dvs ds) (hx : Passes CX X E)
    (ok : ArgsOk X es kws pos ks) (hn : es = [] → t = tNil) (ha : PA X es t) (hkw : PK X kws tk)
    (ht : eval (.Call fe es kws pos) X.env = (do callWith pos (← eval fe X.env) [] (backTo pos (starEach es X.env)) (backToKw pos (keywordEach kws X.env)))) : PE X (.Call fe es kws pos) (tMakeE C sp n ks.length perm dvs E ta t tk) := by
  refine ⟨fun pins s σ H Q I h => ?_⟩
  rw [ht]
  refine wpAny_bind (thn (he.run pins s σ H _ I h) fun u s1 ⟨x, H1, I1, rx, ex, q⟩ => ?_)
  subst ex
  obtain rfl : u = Value.ref C := rx
  exact callw (first := []) ok hn M.kp ha hkw I1 q fun us ws vs zs s2 H2 I2 r rz ⟨l1, l2, q⟩ => make_run M F hr hg hb hd hx I2 r rz l1 l2 q
/-- e.m(..), e the class at C, m a classmethod -/
def tCMethP (C : Addr) (sp : Sp) (n m : Nat) (perm : List Nat) (dvs : List V) (E : XK) (ta : TE) (t tk : TA) : TE := fun σ H Q => ta σ H fun x H1 => x = .ref C ∧
  t σ H1 fun vs H2 => tk σ H2 fun zs H3 => vs.length = n ∧ zs.length = m ∧ sp (.ref C :: pick perm (vs ++ zs ++ dvs)) H3 Q E
theorem pg_cmeth {pl : Sem Bool} (he : PE X o ta) (rd : ClX.CRead X.K C mc) (c : ClX.CMet X.K C mc mn pa f) (F : FnG X.prog X.w X.K X.mg X.base CX k f fd ps sp) (hr : Room k X.A) (hg : X.A.guards = some []) (hb : KBm X.K fd ps n ks perm ds) (hd : Vals dvs ds) (hx : Passes CX X E)
    (ok : ArgsOk X es kws pos ks) (hn : es = [] → t = tNil) (ha : PA X es t) (hkw : PK X kws tk)
    (ht : eval (.Call (.Attribute o mn apos) es kws pos) X.env = (do
      let ov ← eval o X.env
      standAt apos.atName
      let (f, first) ← holding [ov] (getMethod ov mn pl)
      callWith pos f first (backTo pos (starEach es X.env)) (backToKw pos (keywordEach kws X.env)))) :
    PE X (.Call (.Attribute o mn apos) es kws pos) (tCMethP C sp n ks.length perm dvs E ta t tk) := by
  refine ⟨fun pins s σ H Q I h => PySem.W.methodCall_KW (pl := pl) (thn (he.run pins s σ H _ I h) fun u s1 ⟨x, H1, I1, rx, ex, q⟩ => ?_) ht⟩
  subst ex
  obtain rfl : u = Value.ref C := rx
  refine ClX.getmethcm_ok I1 rd c fun s2 I2 => ?_
  refine PySem.W.callWith_of (P := PySem.W.MethP X.K s1.heap.objs.size f (.ref C)) ok.pl (PySem.W.keeps_M c.fi) (args_run ok hn ha hkw I2 q fun us ws vs zs s3 H3 I3 r rz ⟨l1, l2, q2⟩ => ⟨⟨ClX.pin_at I3, I3.kIn⟩, ?_⟩)
  have z := FnG.callM (va := .ref C) (a := .ref C) F hr hg hx I3 hb hd rfl r rz l1 l2 q2
  have z2 : wpAny (model X.prog X.w) X.A (call (.ref s1.heap.objs.size) us (ks.zip ws)) (EP X ((s1.heap.objs.size, PySem.W.methodObj (.ref f) (.ref C)) :: pins) σ Q) X.xe s3 :=
    wpAny_call (PySem.W.method_call (ClX.pin_at I3) z)
  exact thn z2 fun _ _ y => ClX.unpinE y
/-- C.m is a static method -/
structure CSta (K : PySem.W.Frag) (C : Addr) (mc : Value) (m : Str) (p g : Addr) : Prop where
  at_ : PySem.W.findCls K (.ref C) mc m = some (.get (.builtin "staticmethod.__get__") (.ref p) .none (.ref C))
  rc : ∃ rest, PySem.W.recIn K p "staticmethod" = some (.ref g :: rest)
  kp : PySem.W.keepIn K (.ref g) = true
theorem getsta_ok {pl : Sem Bool} {pins : List (Addr × Obj)} {σ : L2.St} {H : Hp} {s : Shared} {A : Around} {Er : Value → Shared → Prop} {Q : Value × List Value → Shared → Prop} (I : Inv X pins σ H s) (r : ClX.CRead X.K C mc) (c : CSta X.K C mc mn pa f)
    (h : ∀ s', Inv X pins σ H s' → Q (.ref f, []) s') : wpAny (model X.prog X.w) A (getMethod (.ref C) mn pl) Q Er s := by
  obtain ⟨rest, hp⟩ := c.rc
  refine PySem.W.method_cls I.kIn r.ga (PySem.W.cls_bind I.kIn r.rd c.at_ ?_)
  refine wpAny_call (PySem.W.sm_get (s := { s with toks := s.toks + 1 }) I.kIn hp (PySem.W.handed_on (handed_of (show RelV (V.ref f) (Value.ref f) from rfl)) ?_))
  exact h _ (I.tok _)
/-- e.m(..), e the class at C, m a static method -/
def tSMethP (C : Addr) (sp : Sp) (n m : Nat) (perm : List Nat) (dvs : List V) (E : XK) (ta : TE) (t tk : TA) : TE := fun σ H Q => ta σ H fun x H1 => x = .ref C ∧
  t σ H1 fun vs H2 => tk σ H2 fun zs H3 => vs.length = n ∧ zs.length = m ∧ sp (pick perm (vs ++ zs ++ dvs)) H3 Q E
theorem callS_run {pins : List (Addr × Obj)} {σ : L2.St} {H : Hp} {s : Shared} {Q : VK} {us ws : List Value} {vs zs : List V} (F : FnG X.prog X.w X.K X.mg X.base CX k f fd ps sp) (hr : Room k X.A) (hg : X.A.guards = some []) (hx : Passes CX X E)
    (I : Inv X pins σ H s) (hb : KB X.K fd ps n ks perm ds) (hd : Vals dvs ds) (r : Vals vs us) (rz : Vals zs ws) (l1 : vs.length = n) (l2 : zs.length = ks.length) (h : sp (pick perm (vs ++ zs ++ dvs)) H Q E) :
    wpAny (model X.prog X.w) X.A (call (.ref f) us (ks.zip ws)) (EP X pins σ Q) X.xe s :=
  wp_of_code (α := Unit) (F.call hr hg hx I (fun _ => hb s us ws I.kIn (by rw [← r.length, l1]) (by rw [← rz.length, l2])) (pick_vals ((r.append rz).append hd)) h)
theorem pg_smeth {pl : Sem Bool} (he : PE X o ta) (rd : ClX.CRead X.K C mc) (c : CSta X.K C mc mn pa f) (F : FnG X.prog X.w X.K X.mg X.base CX k f fd ps sp) (hr : Room k X.A) (hg : X.A.guards = some []) (hb : KB X.K fd ps n ks perm ds) (hd : Vals dvs ds) (hx : Passes CX X E)
    (ok : ArgsOk X es kws pos ks) (hn : es = [] → t = tNil) (ha : PA X es t) (hkw : PK X kws tk)
    (ht : eval (.Call (.Attribute o mn apos) es kws pos) X.env = (do
      let ov ← eval o X.env
      standAt apos.atName
      let (f, first) ← holding [ov] (getMethod ov mn pl)
      callWith pos f first (backTo pos (starEach es X.env)) (backToKw pos (keywordEach kws X.env)))) :
    PE X (.Call (.Attribute o mn apos) es kws pos) (tSMethP C sp n ks.length perm dvs E ta t tk) := by
  refine ⟨fun pins s σ H Q I h => PySem.W.methodCall_KW (pl := pl) (thn (he.run pins s σ H _ I h) fun u s1 ⟨x, H1, I1, rx, ex, q⟩ => ?_) ht⟩
  subst ex
  obtain rfl : u = Value.ref C := rx
  refine getsta_ok I1 rd c fun s2 I2 => ?_
  exact callw (first := []) ok hn c.kp ha hkw I2 q fun us ws vs zs s3 H3 I3 r rz ⟨l1, l2, q2⟩ => callS_run F hr hg hx I3 hb hd r rz l1 l2 q2
end
@[simp] def wCls (t : Nat) : WE := fun δ Q => Q (.sh (.cls t)) δ
@[simp] def wMakeE (t : Nat) (C : Con) (n m : Nat) (perm : List Nat) (dd : List D) (wo : WE) (w wk : WA) : WE := fun δ Q => wo δ fun r δ0 => r.d = .cls t ∧ wCallP C n m perm dd w wk δ0 Q
@[simp] def wCMeth (t : Nat) (C : Con) (n m : Nat) (perm : List Nat) (dd : List D) (wo : WE) (w wk : WA) : WE := fun δ Q => wo δ fun r δ0 => r.d = .cls t ∧ w δ0 fun rs δ1 => wk δ1 fun qs δ2 => keeps rs ∧ keeps qs ∧ rs.length = n ∧ qs.length = m ∧
  C (.cls t :: pick perm (rs.map RD.d ++ qs.map RD.d ++ dd)) δ2.n fun d n' => Q (.sh d) ⟨δ2.sl, n'⟩
@[simp] def wSMeth (t : Nat) (C : Con) (n m : Nat) (perm : List Nat) (dd : List D) (wo : WE) (w wk : WA) : WE := fun δ Q => wo δ fun r δ0 => r.d = .cls t ∧ w δ0 fun rs δ1 => wk δ1 fun qs δ2 => keeps rs ∧ keeps qs ∧ rs.length = n ∧ qs.length = m ∧
  C (pick perm (rs.map RD.d ++ qs.map RD.d ++ dd)) δ2.n fun d n' => Q (.sh d) ⟨δ2.sl, n'⟩
section
variable {X : Cx} {K : PySem.W.Frag} {E : Ent} {Gf : Addr → Addr → Gx} {a c : Addr} {C : Con} {dd : List D} {dvs : List V} {to : TE} {wo : WE} {ts tk : TA} {wa wk : WA} {n m t : Nat} {perm : List Nat} {Ex : XK}
theorem RB.cls {G : Gx} {M : List Addr} {H : Hp} {v : V} (h : RB K G M H v (.cls t)) : v = .ref (G.cls t) := h.full
theorem sim_makeE (ho : SimE K (Gf a c) E to wo) (h : SimA K (Gf a c) E ts wa) (h' : SimA K (Gf a c) E tk wk) (hd : Dfl K (Gf a c) dvs dd) : SimE K (Gf a c) E (tMakeE ((Gf a c).cls t) (liftI K Gf t C) n m perm dvs Ex to ts tk) (wMakeE t C n m perm dd wo wa wk) := fun am M σ δ H S Qd q Q k =>
  ho am M σ δ H S _ q _ fun x r δ0 H0 S0 e0 o0 r0 ⟨er, q⟩ => by
    have rb := r0.k.rb S0
    rw [er] at rb
    exact ⟨rb.cls, sim_make h h' hd am M σ δ0 H0 S0 _ q _ fun v r δ' H' S' e o rv hq => k v r δ' H' S' (e0.trans o0 e) (fun i z => o0 i (o i z)) rv hq⟩
theorem sim_cmeth (ho : SimE K (Gf a c) E to wo) (h : SimA K (Gf a c) E ts wa) (h' : SimA K (Gf a c) E tk wk) (hd : Dfl K (Gf a c) dvs dd) : SimE K (Gf a c) E (tCMethP ((Gf a c).cls t) (lift K Gf C) n m perm dvs Ex to ts tk) (wCMeth t C n m perm dd wo wa wk) := fun am M σ δ H S Qd q Q k =>
  ho am M σ δ H S _ q _ fun x r δ0 H0 S0 e0 o0 r0 ⟨er, q⟩ => by
    have rb := r0.k.rb S0
    rw [er] at rb
    refine ⟨rb.cls, h am M σ δ0 H0 S0 _ q _ fun vs rs δ1 H1 S1 e1 o1 r1 q => h' am M σ δ1 H1 S1 _ q _ fun zs qs δ2 H2 S2 e2 o2 r2 ⟨k1, k2, l1, l2, hc⟩ => ?_⟩
    refine ⟨by rw [r1.length]; exact l1, by rw [r2.length]; exact l2, ?_⟩
    have rep := pick_rep (perm := perm) ((((r1.later (δ2 := δ2) S1 e2 k1).rep k1).append (r2.rep k2)).append (hd _))
    exact lift_use (ds := .cls t :: _) S2 (RepAll.cons (show Rep K (Gf a c) _ _ (.cls t) from rfl) rep) hc fun v r δ' H' S' e' o' rv hq =>
      k v r δ' H' S' (((e0.trans o0 e1).trans (fun i z => o0 i (o1 i z)) e2).trans (fun i z => o0 i (o1 i (o2 i z))) e') (fun i z => o0 i (o1 i (o2 i (o' i z)))) rv hq
theorem sim_smeth (ho : SimE K (Gf a c) E to wo) (h : SimA K (Gf a c) E ts wa) (h' : SimA K (Gf a c) E tk wk) (hd : Dfl K (Gf a c) dvs dd) : SimE K (Gf a c) E (tSMethP ((Gf a c).cls t) (lift K Gf C) n m perm dvs Ex to ts tk) (wSMeth t C n m perm dd wo wa wk) := fun am M σ δ H S Qd q Q k =>
  ho am M σ δ H S _ q _ fun x r δ0 H0 S0 e0 o0 r0 ⟨er, q⟩ => by
    have rb := r0.k.rb S0
    rw [er] at rb
    refine ⟨rb.cls, h am M σ δ0 H0 S0 _ q _ fun vs rs δ1 H1 S1 e1 o1 r1 q => h' am M σ δ1 H1 S1 _ q _ fun zs qs δ2 H2 S2 e2 o2 r2 ⟨k1, k2, l1, l2, hc⟩ => ?_⟩
    refine ⟨by rw [r1.length]; exact l1, by rw [r2.length]; exact l2, ?_⟩
    have rep := pick_rep (perm := perm) ((((r1.later (δ2 := δ2) S1 e2 k1).rep k1).append (r2.rep k2)).append (hd _))
    exact lift_use S2 rep hc fun v r δ' H' S' e' o' rv hq =>
      k v r δ' H' S' (((e0.trans o0 e1).trans (fun i z => o0 i (o1 i z)) e2).trans (fun i z => o0 i (o1 i (o2 i z))) e') (fun i z => o0 i (o1 i (o2 i (o' i z)))) rv hq
variable {k : Nat} {f : Addr} {fd : FuncData} {ps ks : List Str} {ds : List Value} {x mn : Str} {p pos apos : Pos} {o fe : Expr} {es : List Expr} {kws : List Keyword} {mc : Value} {pa : Addr}
theorem de_cls (t : Nat) {Gg : Gx} (hm : X.mg x = some (.ref (Gg.cls t))) (gl : Gl X x := by rfl) (hd : (x == ("__debug__" : Str)) = false := by decide) : DE X Gg (.Name x p) (tC (.ref (Gg.cls t))) (wCls t) := ⟨pe_glob gl hm rfl hd, fun E => sim_c fun H => rfl⟩
theorem de_makeE (K : PySem.W.Frag) (t : Nat) (M : Mk K ((Gf a c).cls t) f) (F : FnG X.prog X.w K X.mg X.base CX0 k f fd ps (liftI K Gf t C)) (hr : Room (k + 1) X.A) (hg : X.A.guards = some []) (hb : KBm K fd ps n ks perm ds) (hv : Vals dvs ds) (hd : Dfl K (Gf a c) dvs dd)
    (he : DE X (Gf a c) fe to wo) (ha : DA X (Gf a c) es ts wa) (hkw : DK X (Gf a c) kws tk wk) (ok : ArgsOk X es kws pos ks := by exact ⟨by first | exact .inl rfl | exact .inr ⟨_, _, rfl, rfl⟩, rfl, rfl, rfl⟩) (hn : es = [] → ts = tNil := by first | exact fun _ => rfl | (intro h; cases h))
    (ht : eval (.Call fe es kws pos) X.env = (do callWith pos (← eval fe X.env) [] (backTo pos (starEach es X.env)) (backToKw pos (keywordEach kws X.env))) := by rfl) (hl : ks.length = m := by rfl) (hK : X.K = K := by rfl) :
    DE X (Gf a c) (.Call fe es kws pos) (tMakeE ((Gf a c).cls t) (liftI K Gf t C) n m perm dvs E0 to ts tk) (wMakeE t C n m perm dd wo wa wk) := by
  subst hK hl
  exact ⟨pg_makeE he.pe M F hr hg hb hv pass0 ok hn ha.pa hkw.pk ht, fun E => sim_makeE (he.sim E) (ha.sim E) (hkw.sim E) hd⟩
theorem de_cmeth {pl : Sem Bool} (K : PySem.W.Frag) (t : Nat) (rd : ClX.CRead K ((Gf a c).cls t) mc) (cm : ClX.CMet K ((Gf a c).cls t) mc mn pa f) (F : FnG X.prog X.w K X.mg X.base CX0 k f fd ps (lift K Gf C)) (hr : Room k X.A) (hg : X.A.guards = some []) (hb : KBm K fd ps n ks perm ds) (hv : Vals dvs ds) (hd : Dfl K (Gf a c) dvs dd)
    (he : DE X (Gf a c) o to wo) (ha : DA X (Gf a c) es ts wa) (hkw : DK X (Gf a c) kws tk wk) (ok : ArgsOk X es kws pos ks := by exact ⟨by first | exact .inl rfl | exact .inr ⟨_, _, rfl, rfl⟩, rfl, rfl, rfl⟩) (hn : es = [] → ts = tNil := by first | exact fun _ => rfl | (intro h; cases h))
    (ht : eval (.Call (.Attribute o mn apos) es kws pos) X.env = (do
      let ov ← eval o X.env
      standAt apos.atName
      let (f, first) ← holding [ov] (getMethod ov mn pl)
      callWith pos f first (backTo pos (starEach es X.env)) (backToKw pos (keywordEach kws X.env))) := by rfl) (hl : ks.length = m := by rfl) (hK : X.K = K := by rfl) :
    DE X (Gf a c) (.Call (.Attribute o mn apos) es kws pos) (tCMethP ((Gf a c).cls t) (lift K Gf C) n m perm dvs E0 to ts tk) (wCMeth t C n m perm dd wo wa wk) := by
  subst hK hl
  exact ⟨pg_cmeth he.pe rd cm F hr hg hb hv pass0 ok hn ha.pa hkw.pk ht, fun E => sim_cmeth (he.sim E) (ha.sim E) (hkw.sim E) hd⟩
theorem de_smeth {pl : Sem Bool} (K : PySem.W.Frag) (t : Nat) (rd : ClX.CRead K ((Gf a c).cls t) mc) (cm : CSta K ((Gf a c).cls t) mc mn pa f) (F : FnG X.prog X.w K X.mg X.base CX0 k f fd ps (lift K Gf C)) (hr : Room k X.A) (hg : X.A.guards = some []) (hb : KB K fd ps n ks perm ds) (hv : Vals dvs ds) (hd : Dfl K (Gf a c) dvs dd)
    (he : DE X (Gf a c) o to wo) (ha : DA X (Gf a c) es ts wa) (hkw : DK X (Gf a c) kws tk wk) (ok : ArgsOk X es kws pos ks := by exact ⟨by first | exact .inl rfl | exact .inr ⟨_, _, rfl, rfl⟩, rfl, rfl, rfl⟩) (hn : es = [] → ts = tNil := by first | exact fun _ => rfl | (intro h; cases h))
    (ht : eval (.Call (.Attribute o mn apos) es kws pos) X.env = (do
      let ov ← eval o X.env
      standAt apos.atName
      let (f, first) ← holding [ov] (getMethod ov mn pl)
      callWith pos f first (backTo pos (starEach es X.env)) (backToKw pos (keywordEach kws X.env))) := by rfl) (hl : ks.length = m := by rfl) (hK : X.K = K := by rfl) :
    DE X (Gf a c) (.Call (.Attribute o mn apos) es kws pos) (tSMethP ((Gf a c).cls t) (lift K Gf C) n m perm dvs E0 to ts tk) (wSMeth t C n m perm dd wo wa wk) := by
  subst hK hl
  exact ⟨pg_smeth he.pe rd cm F hr hg hb hv pass0 ok hn ha.pa hkw.pk ht, fun E => sim_smeth (he.sim E) (ha.sim E) (hkw.sim E) hd⟩
end
end L3
namespace L3
open PySem PySem.Spec PyProof.Rows L2
/-- classes whose instances may be called with one value -/
def Tab1 (X : Cx) (CX : CXT) (T : Addr → Sp → Prop) : Prop := ∀ C sp, T C sp → ∃ (k : Nat) (f : Addr) (fd : FuncData) (ps : List Str), CallI X.K C f ∧ FnG X.prog X.w X.K X.mg X.base CX k f fd ps sp ∧ Room k X.A ∧ KBm X.K fd ps 1 [] [0] []
section
variable {X : Cx} {CX : CXT} {T : Addr → Sp → Prop} {E : XK} {fn : Str} {p pos apos : Pos} {e o fe : Expr} {ta te : TE}
theorem getfld_ok {pl : Sem Bool} {pins : List (Addr × Obj)} {σ : L2.St} {H : Hp} {s : Shared} {A : Around} {Er : Value → Shared → Prop} {Q : Value × List Value → Shared → Prop} {a C dx : Addr} {fs : List (Str × V)} {v : V} (I : Inv X pins σ H s) (hi : H a = some (.ins C dx fs)) (c : Cls X.K C) (n : NoAttr X.K C fn) (l : fs.lookup fn = some v)
    (h : ∀ u s', Inv X pins σ H s' → RelV v u → Q (u, []) s') : wpAny (model X.prog X.w) A (getMethod (.ref a) fn pl) Q Er s := by
  obtain ⟨mA, O, r, _, _, _⟩ := ins_get I.hok hi
  obtain ⟨od, J, hl⟩ := O.look
  exact PySem.W.method_usual (r := none) I.kIn J (PySem.W.plainGet_of (c.get fn)).1 (PySem.W.plainGet_of (c.get fn)).2 n rfl (getattr_ok I hi c n l fun u s' I' ru => h u s' I' ru)
/-- o.f(e), f a field that holds an instance -/
def tFInst1 (K : PySem.W.Frag) (T : Addr → Sp → Prop) (fn : Str) (E : XK) (ta te : TE) : TE := fun σ H Q => ta σ H fun x H1 => ∃ a D dx fs b, x = .ref a ∧ H1 a = some (.ins D dx fs) ∧ Cls K D ∧ NoAttr K D fn ∧ fs.lookup fn = some (.ref b) ∧
  te σ H1 fun z H2 => ∃ y, [z] = [y] ∧ ([] : List V) = [] ∧ ∃ C sp dx fs, T C sp ∧ H2 b = some (.ins C dx fs) ∧ sp [.ref b, y] H2 Q E
theorem pg_finst1 {pl : Sem Bool} (he : PE X o ta) (hT : Tab1 X CX T) (hg : X.A.guards = some []) (hx : Passes CX X E) (ha : PE X e te) (ok : ArgsOk X [e] [] pos []) (hs : starEach [e] X.env = (false, eval e X.env) :: starEach [] X.env)
    (ht : eval (.Call (.Attribute o fn apos) [e] [] pos) X.env = (do
      let ov ← eval o X.env
      standAt apos.atName
      let (f, first) ← holding [ov] (getMethod ov fn pl)
      callWith pos f first (backTo pos (starEach [e] X.env)) (backToKw pos (keywordEach [] X.env)))) : PE X (.Call (.Attribute o fn apos) [e] [] pos) (tFInst1 X.K T fn E ta te) := by
  refine ⟨fun pins s σ H Q I h => PySem.W.methodCall_KW (pl := pl) (thn (he.run pins s σ H _ I h) fun u s1 ⟨x, H1, I1, rx, a, D, dx, fs, b, ex, hi, c, n, l, q⟩ => ?_) ht⟩
  subst ex
  obtain rfl : u = Value.ref a := rx
  refine getfld_ok I1 hi c n l fun u s2 I2 ru => ?_
  obtain rfl : u = Value.ref b := ru
  refine calli (t := tCons te tNil) (tk := tNil) (B := fun vs zs H2 => ∃ y, vs = [y] ∧ zs = [] ∧ ∃ C sp dx fs, T C sp ∧ H2 b = some (.ins C dx fs) ∧ sp [.ref b, y] H2 Q E) ok (fun z => by cases z) (pa_cons ha pa_nil hs) pk_nil I2 ?_ fun us ws vs zs s3 H3 I3 r rz ⟨y, ey, ez, C, sp, dx, fs, tc, hb, q2⟩ => ?_
  · exact q
  · obtain ⟨k, f, fd, ps, ci, F, hr, kb⟩ := hT C sp tc
    subst ey ez
    exact ⟨⟨C, dx, fs, hb⟩, run_inst (perm := [0]) (dvs := []) ci F hr hg hx I3 hb kb .nil r rz rfl rfl q2⟩
end
/-- the table over data -/
def TabD (Gf : Addr → Addr → Gx) (a c : Addr) (K : PySem.W.Frag) (L : List (Nat × Con)) : Addr → Sp → Prop := fun A sp => ∃ t C, L.lookup t = some C ∧ A = (Gf a c).cls t ∧ sp = lift K Gf C
@[simp] def wFInst1 (tab : List (Nat × Nat)) (L : List (Nat × Con)) (wo we : WE) : WE := fun δ Q => wo δ fun r δ0 => ¬ r.bor ∧ fFld tab r.d fun f => ∃ t fs C, f.d = .ins t fs ∧ L.lookup t = some C ∧ we δ0 fun s δ1 => ¬ s.bor ∧ C [.ins t fs, s.d] δ1.n fun d n' => Q (.sh d) ⟨δ1.sl, n'⟩
section
variable {X : Cx} {K : PySem.W.Frag} {E : Ent} {Gf : Addr → Addr → Gx} {a c : Addr} {L : List (Nat × Con)} {ta te : TE} {wo we : WE} {fn : Str} {tab : List (Nat × Nat)} {Ex : XK}
theorem sim_finst1 (ok : FldOk K (Gf a c) fn tab) (ho : SimE K (Gf a c) E ta wo) (he : SimE K (Gf a c) E te we) : SimE K (Gf a c) E (tFInst1 K (TabD Gf a c K L) fn Ex ta te) (wFInst1 tab L wo we) := fun am M σ δ H S Qd q Q k =>
  ho am M σ δ H S _ q _ fun x r δ0 H0 S0 e0 o0 r0 ⟨nb, q⟩ => by
    have rr := r0.k.rep nb
    generalize r.d = d at q rr
    cases d <;> first | exact q.elim | skip
    obtain ⟨i, y, h1, h2, t, fs, C, ey, hL, q⟩ := q
    obtain ⟨p, dx, xs, rfl, hp, hl, rx⟩ := id rr
    obtain ⟨v, hv, rv⟩ := rx.get h2
    rw [show y = .ins t fs from ey] at rv
    obtain ⟨b, dx2, xs2, rfl, hb, hl2, rx2⟩ := id rv
    refine ⟨p, _, dx, _, b, rfl, mask_le _ _ hp, (ok.cl _ _ h1).1, (ok.cl _ _ h1).2, by rw [lookup_zip xs (ok.ix _ _ h1).1]; exact hv, ?_⟩
    refine he am M σ δ0 H0 S0 _ q _ fun z s δ1 H1 S1 e1 o1 sv ⟨ns, hc⟩ => ?_
    have rv' : Rep K (Gf a c) (mask M H1) (.ref b) (.ins t fs) := Rep.mono (S0.mask e1) _ rv
    obtain ⟨b', dx3, xs3, eb, hb3, _⟩ := id rv'
    cases eb
    refine ⟨z, rfl, rfl, _, _, dx3, _, ⟨t, C, hL, rfl, rfl⟩, mask_le _ _ hb3, ?_⟩
    exact lift_use (vs := [.ref b, z]) (ds := [.ins t fs, s.d]) S1 (RepAll.cons rv' (RepAll.cons (sv.k.rep ns) (show RepAll _ _ _ [] [] from rfl))) hc fun v r δ' H' S' e' o' rv hq =>
      k v r δ' H' S' ((e0.trans o0 e1).trans (fun i z => o0 i (o1 i z)) e') (fun i z => o0 i (o1 i (o' i z))) rv hq
/-- a row of the table -/
theorem tab1_nil : Tab1 X CX0 (TabD Gf a c X.K []) := fun C sp ⟨t, C', h, _⟩ => by simp at h
theorem tab1_cons {t k : Nat} {C : Con} {f : Addr} {fd : FuncData} {ps : List Str} (ci : CallI X.K ((Gf a c).cls t) f) (F : FnG X.prog X.w X.K X.mg X.base CX0 k f fd ps (lift X.K Gf C)) (hr : Room k X.A) (hb : KBm X.K fd ps 1 [] [0] []) (r : Tab1 X CX0 (TabD Gf a c X.K L)) : Tab1 X CX0 (TabD Gf a c X.K ((t, C) :: L)) := fun A sp ⟨u, C', h, e1, e2⟩ => by
  rw [List.lookup_cons] at h
  by_cases e : (u == t) = true
  · rw [e] at h
    cases h
    have e : u = t := beq_iff_eq.mp e
    subst e e1 e2
    exact ⟨k, f, fd, ps, ci, F, hr, hb⟩
  · rw [Bool.eq_false_iff.mpr e] at h
    exact r A sp ⟨u, C', h, e1, e2⟩
theorem de_finst1 {o e : Expr} {pos apos : Pos} {pl : Sem Bool} (ok : FldOk X.K (Gf a c) fn tab) (hT : Tab1 X CX0 (TabD Gf a c X.K L)) (hg : X.A.guards = some []) (ho : DE X (Gf a c) o ta wo) (he : DE X (Gf a c) e te we)
    (oka : ArgsOk X [e] [] pos [] := by exact ⟨.inr ⟨_, _, rfl, rfl⟩, rfl, rfl, rfl⟩) (hs : starEach [e] X.env = (false, eval e X.env) :: starEach [] X.env := by rfl)
    (ht : eval (.Call (.Attribute o fn apos) [e] [] pos) X.env = (do
      let ov ← eval o X.env
      standAt apos.atName
      let (f, first) ← holding [ov] (getMethod ov fn pl)
      callWith pos f first (backTo pos (starEach [e] X.env)) (backToKw pos (keywordEach [] X.env))) := by rfl) :
    DE X (Gf a c) (.Call (.Attribute o fn apos) [e] [] pos) (tFInst1 X.K (TabD Gf a c X.K L) fn E0 ta te) (wFInst1 tab L wo we) := ⟨pg_finst1 ho.pe hT hg pass0 he.pe oka hs ht, fun E => sim_finst1 ok (ho.sim E) (he.sim E)⟩
end
end L3
namespace L3
open PySem PySem.Spec PyProof.Rows L2
section
variable {K : PySem.W.Frag} {x qual : Str} {params : Arguments} {body : List Stmt} {scope : Scope} {kws : List (Str × V)} {f : Addr} {fd : FuncData} {ps : List Str}
theorem FunD.kbK (F : FunD K x qual params body scope [] kws f fd) (n : Nat) (ks : List Str) (perm : List Nat) (ms : List (Str × V)) (hk : kws ≠ []) (hms : ∀ q ∈ ms, q ∈ kws)
    (h : ∀ (D : Addr) (doc pm : Value) (an : Option Addr) (cdv ct : Value) (us mv ws : List Value), us.length = n → mv.length = ms.length → ws.length = ks.length →
      KwChain D ((ms.map (·.1)).zip mv) (bindArgs (PySem.W.fnOf x qual params body scope .none (.ref D) doc pm an cdv ct) ⟨us, ks.zip ws⟩) (ps.zip (pick perm (us ++ ws ++ mv)))) : ∃ mv : List Value, Vals (ms.map (·.2)) mv ∧ KB K fd ps n ks perm mv := by
  obtain ⟨oc, od, dV, kV, doc, pm, an, cdv, ct, osl, rfl, lk, hcd, hD, hK⟩ := F.ex
  rcases hD with ⟨_, rfl⟩ | ⟨e, _⟩
  · rcases hK with e | ⟨D, rfl, hq⟩
    · exact absurd e hk
    · obtain ⟨mv, hl, rk, hks⟩ := kwd_vals (ms := ms) fun q hm => hq q (hms q hm)
      exact ⟨mv, rk, fun s us ws X l1 l2 => BindsTo.of_looks fun M => KwChain.looks X hks (h D doc pm an cdv ct us mv ws l1 hl l2)⟩
  · exact absurd rfl e
end
end L3
namespace L3
open PySem L2
@[simp] def gLst3 (n : Nat) (t : WGs) : WG := fun d δ Q => ∃ ds, d = .lst ds ∧ ds.length = n ∧ t ds δ Q
section
variable {X : Cx} {G : Gx} {K : PySem.W.Frag}
theorem sim_gLst {n : Nat} {t : TGs} {ws : WGs} {us : List Nat} (h : SimGs K G us t ws) : SimG K G us (gLst K n t) (gLst3 n ws) := fun E am M σ δ H S x d r Qd ⟨ds, e, hl, q⟩ Q k => by
  subst e
  obtain ⟨a, xs, rfl, ht, rs⟩ := r
  exact ⟨a, xs, rfl, SqL.of (mask_le _ _ ht), by rw [rs.length]; exact hl, h E am M σ δ H S xs ds rs _ q _ k⟩
theorem dg_lstK (K : PySem.W.Frag) {es : List Expr} {k : Nat} {pos : Pos} {t : TGs} {ws : WGs} {us : List Nat} {n : Nat} (hc : X.calm = true) (h : DGs X G es us t ws) (hn : (assignEach es X.env).length = n := by rfl) (hst : (assignEach es X.env).findIdx? (·.1) = none := by rfl) (hK : X.K = K := by rfl) :
    DG X G (.Tuple es k pos) us (gLst K n t) (gLst3 n ws) := by
  subst hK
  exact ⟨pg_lst hc h.pg hn hst, sim_gLst h.sim⟩
end
end L3
namespace Pg
open PySem PySem.Spec PyProof.Rows L2 L3
abbrev C_l_draw : Con := CdrawA
abbrev C_l_pick : Con := CpickA
/-- the last digit of n that is not 0 -/
inductive Ld (b : Int) : Int → Int → Prop
  | here {n : Int} : n % b ≠ 0 → Ld b n (n % b)
  | up {n d : Int} : n % b = 0 → Ld b (n / b) d → Ld b n d
def C_last_digit : Con := fun ds n Q => ∃ i b d : Int, ds = [.int i, .int b] ∧ 2 ≤ b ∧ b ≤ 40 ∧ 0 < i ∧ Ld b i d ∧ Q (.int d) n
/-- rules: class numbers as in the generated text: 0 Sorter, 1 Pairing, 2 LastDigit, 3 Remainder -/
def C_Remainder_uinitu : Con := fun ds n Q => ∃ m : Int, ds = [.int m] ∧ Q (.ins 3 [.int m]) n
def C_Remainder_ucallu : Con := fun ds n Q => ∃ m i : Int, ds = [.ins 3 [.int m], .int i] ∧ 0 < m ∧ Q (.int (i % m)) n
def C_LastDigit_uinitu : Con := fun ds n Q => ∃ b a : Int, ds = [.int b, .int a] ∧ Q (.ins 2 [.int b, .int a]) n
def C_LastDigit_ucallu : Con := fun ds n Q => ∃ b a i : Int, ds = [.ins 2 [.int b, .int a], .int i] ∧ 2 ≤ b ∧ b ≤ 40 ∧ ((i ≤ a ∧ Q (.int (i - 1)) n) ∨ ∃ d, a < i ∧ Ld b (i - a) d ∧ Q (.int (max a 0 + d - 1)) n)
def C_Pairing_uinitu : Con := fun ds n Q => ∃ x y : D, ds = [x, y] ∧ Q (.ins 1 [x, y]) n
def C_Sorter_uinitu : Con := fun ds n Q => ∃ x y : D, ds = [x, y] ∧ Q (.ins 0 [x, y]) n
/-- plans: remainders, last digits behind a bound -/
inductive Pln where
  | md (m : Int) | dg (b a : Int)
def Pln.d : Pln → D
  | .md m => .tup [.str "modulo", .int m]
  | .dg b a => .tup [.str "digits", .int b, .int a]
def Pln.ru : Pln → D
  | .md m => .ins 3 [.int m]
  | .dg b a => .ins 2 [.int b, .int a]
def Pln.bx : Pln → Int
  | .md m => m
  | .dg b a => max a 0 + b - 1
def Pln.so (p : Pln) : D := .ins 0 [.int p.bx, p.ru]
def Pln.ok : Pln → Prop
  | .md m => 1 ≤ m ∧ m ≤ 40
  | .dg b a => 2 ≤ b ∧ b ≤ 40 ∧ -11 ≤ a ∧ a ≤ 40
/-- the box of an integer -/
inductive Plc : Pln → Int → Int → Prop
  | md {m i : Int} : Plc (.md m) i (i % m)
  | lo {b a i : Int} : i ≤ a → Plc (.dg b a) i (i - 1)
  | hi {b a i d : Int} : a < i → Ld b (i - a) d → Plc (.dg b a) i (max a 0 + d - 1)
/-- a sorter of a depth puts an integer into a box -/
inductive Sc : Nat → D → Int → Int → Prop
  | base {k : Nat} {p : Pln} {i x : Int} : p.ok → Plc p i x → Sc k p.so i x
  | pair {k : Nat} {B1 B2 i x y : Int} {r1 r2 B : D} : Sc k (.ins 0 [.int B1, r1]) i x → Sc k (.ins 0 [.int B2, r2]) i y → Sz 100 x → Sz 100 B2 → Sc (k + 1) (.ins 0 [B, .ins 1 [.ins 0 [.int B1, r1], .ins 0 [.int B2, r2]]]) i (x * B2 + y)
def C_Sorter_ucallu : Nat → Con := fun k ds n Q => ∃ (s : D) (i x : Int), ds = [s, .int i] ∧ 0 < i ∧ Sc k s i x ∧ Q (.int x) n
def C_Pairing_ucallu : Nat → Con
  | 0 => Cno
  | k + 1 => fun ds n Q => ∃ (B1 B2 i x y : Int) (r1 r2 : D), ds = [.ins 1 [.ins 0 [.int B1, r1], .ins 0 [.int B2, r2]], .int i] ∧ 0 < i ∧ Sc k (.ins 0 [.int B1, r1]) i x ∧ Sc k (.ins 0 [.int B2, r2]) i y ∧ Sz 100 x ∧ Sz 100 B2 ∧ Q (.int (x * B2 + y)) n
def C_Sorter_umulu : Con := fun ds n Q => ∃ (B1 B2 : Int) (r1 r2 : D), ds = [.ins 0 [.int B1, r1], .ins 0 [.int B2, r2]] ∧ Sz 100 B1 ∧ Sz 100 B2 ∧ Q (.ins 0 [.int (B1 * B2), .ins 1 [.ins 0 [.int B1, r1], .ins 0 [.int B2, r2]]]) n
def C_Sorter_modulo : Con := fun ds n Q => ∃ m : Int, ds = [.cls 0, .int m] ∧ Q (Pln.md m).so n
def C_Sorter_digits : Con := fun ds n Q => ∃ b a : Int, ds = [.cls 0, .int b, .int a] ∧ Q (Pln.dg b a).so n
def C_l_last : Con := fun ds n Q => ∃ i b d : Int, ds = [.int i, .int b] ∧ 2 ≤ b ∧ b ≤ 40 ∧ 0 < i ∧ Sz 200 i ∧ Ld b i d ∧ Q (.int d) n
def C_l_plan : Con := fun ds n Q => ds = [.deck] ∧ n + 3 ≤ mostDraws ∧ ∀ (p : Pln) (n' : Nat), p.ok → n' ≤ n + 3 → Q p.d n'
def C_l_made : Con := fun ds n Q => ∃ p : Pln, ds = [.deck, p.d] ∧ n + 4 ≤ mostDraws ∧ ∀ n' : Nat, n' ≤ n + 4 → Q p.so n'
def C_l_many : Con := fun ds n Q => ∃ p : Pln, ds = [p.d] ∧ Q (.int p.bx) n
def C_l_place : Con := fun ds n Q => ∃ (p : Pln) (i x : Int), ds = [p.d, .int i] ∧ p.ok ∧ 0 < i ∧ Sz 190 i ∧ Plc p i x ∧ Q (.int x) n
def C_l_integers : Con := fun ds n Q => ∃ p1 p2 p3 : Pln, ds = [.deck, .lst [p1.d, p2.d, p3.d]] ∧ p1.ok ∧ p2.ok ∧ p3.ok ∧ n + 60 ≤ mostDraws ∧ ∀ (is : List Int) (n' : Nat), (∀ i ∈ is, 0 < i ∧ Sz 180 i) → n' ≤ n + 60 → Q (.lst (is.map D.int)) n'
def C_l_right : Con := fun ds n Q => ds = [.deck] ∧ n + 200 ≤ mostDraws ∧ ∀ n' : Nat, n' ≤ n + 200 → Q (.bl true) n'
end Pg
namespace Pg
open PySem PySem.Spec PyProof.Rows L2 L3
abbrev N_last_digit : List Str := ["number", "base", "left"]
abbrev N_Remainder_uinitu : List Str := ["self", "modulus"]
abbrev N_Remainder_ucallu : List Str := ["self", "number"]
abbrev N_LastDigit_uinitu : List Str := ["self", "prime", "after"]
abbrev N_LastDigit_ucallu : List Str := ["self", "number"]
abbrev N_Pairing_uinitu : List Str := ["self", "first_sorter", "second_sorter"]
abbrev N_Pairing_ucallu : List Str := ["self", "number"]
abbrev N_Sorter_uinitu : List Str := ["self", "boxes", "rule"]
abbrev N_Sorter_modulo : List Str := ["cls", "modulus"]
abbrev N_Sorter_digits : List Str := ["cls", "prime", "after"]
abbrev N_Sorter_ucallu : List Str := ["self", "number"]
abbrev N_Sorter_umulu : List Str := ["self", "other"]
abbrev N_l_deck : List Str := ["_law_script", "_law_cells", "_law_blend", "_law_cell"]
abbrev N_l_draw : List Str := ["_law_deck_here", "_law_many_here", "_law_turn", "_law_cell", "_law_held"]
abbrev N_l_pick : List Str := ["_law_deck_here", "_law_some"]
abbrev N_l_last : List Str := ["_law_k", "_law_by", "_law_found", "_law_x"]
abbrev N_l_plan : List Str := ["_law_deck_here"]
abbrev N_l_made : List Str := ["_law_deck_here", "_law_plan_here"]
abbrev N_l_many : List Str := ["_law_plan_here"]
abbrev N_l_place : List Str := ["_law_plan_here", "_law_k"]
abbrev N_l_integers : List Str := ["_law_deck_here", "_law_plans", "_law_found", "_law_plan_here", "_law_go", "_law_k", "_law_again", "_law_bound"]
abbrev N_l_right : List Str := ["_law_deck_here", "_law_plans", "_law_k", "_law_a", "_law_b", "_law_c", "_law_sizes", "_law_plan_here", "_law_two", "_law_left", "_law_right_here", "_law_whole", "_law_told", "_law_x", "_law_y", "_law_z", "_law_pair", "_law_due"]
abbrev N_law : List Str := ["_law_script", "_law_deck_here", "_law_go"]
abbrev tab_after : List (Nat × Nat) := [(2, 1)]
abbrev tab_boxes : List (Nat × Nat) := [(0, 0)]
abbrev tab_first_sorter : List (Nat × Nat) := [(1, 0)]
abbrev tab_modulus : List (Nat × Nat) := [(3, 0)]
abbrev tab_prime : List (Nat × Nat) := [(2, 0)]
abbrev tab_rule : List (Nat × Nat) := [(0, 1)]
abbrev tab_second_sorter : List (Nat × Nat) := [(1, 1)]
def w_l_draw : WS :=
  (wSeq (wAsg 4 (wOp fMod (wCB fInt (wCons (wOp fMulA (wOp fAdd (wOp fAdd (wOp fMod (wCB fInt (wCons (wVar 3) wNil)) (wC (.int 2147483629))) (wOp fMulA (wOp fMulA (wC (.int 60449)) (wVar 2)) (wVar 2))) (wC (.int 53))) (wC (.int 40692))) wNil)) (wC (.int 2147483647))))
    (wSeq (wAsg 4 (wOp fMod (wCB fInt (wCons (wOp fAdd (wOp fAdd (wOp fMulA (wVar 4) (wVar 4)) (wOp fMulA (wC (.int 69621)) (wVar 2))) (wC (.int 107))) wNil)) (wC (.int 2147483587))))
    (wRet (wOp fMod (wCB fInt (wCons (wOp fFdiv (wOp fMod (wCB fInt (wCons (wOp fMulA (wVar 4) (wC (.int 39373))) wNil)) (wC (.int 2147483563))) (wC (.int 64))) wNil)) (wVar 1)))))
def w_last_digit : WS :=
  (wSeq (wAsg 2 (wVar 0))
    (wSeq (wWhile (wTest (wOp (fEq false) (wOp fMod (wVar 2) (wVar 1)) (wC (.int 0)))) (wAsg 2 (wOp fFdiv (wVar 2) (wVar 1))))
    (wRet (wOp fMod (wVar 2) (wVar 1)))))
def w_Remainder_uinitu : WS :=
  (wSetF 0 tab_modulus (wVar 1))
def w_Remainder_ucallu : WS :=
  (wRet (wOp fMod (wVar 1) (wUn (fFld tab_modulus) (wVar 0))))
def w_LastDigit_uinitu : WS :=
  (wSeq (wSetF 0 tab_prime (wVar 1))
    (wSetF 0 tab_after (wVar 2)))
def w_LastDigit_ucallu : WS :=
  (wSeq (wIfS (wTest (wOp fLe (wVar 1) (wUn (fFld tab_after) (wVar 0)))) (wRet (wOp fSub (wVar 1) (wC (.int 1)))) wNext)
    (wRet (wOp fSub (wOp fAdd (wCB fMax2 (wCons (wUn (fFld tab_after) (wVar 0)) (wCons (wC (.int 0)) wNil))) (wCall C_last_digit [] (wCons (wOp fSub (wVar 1) (wUn (fFld tab_after) (wVar 0))) (wCons (wUn (fFld tab_prime) (wVar 0)) wNil)))) (wC (.int 1)))))
def w_Pairing_uinitu : WS :=
  (wSeq (wSetF 0 tab_first_sorter (wVar 1))
    (wSetF 0 tab_second_sorter (wVar 2)))
def w_Pairing_ucallu (CM : Con) : WS :=
  (wRet (wOp fAdd (wOp fMulA (wFInst1 tab_first_sorter [(0, CM)] (wVar 0) (wVar 1)) (wUn (fFld tab_boxes) (wUn (fFld tab_second_sorter) (wVar 0)))) (wFInst1 tab_second_sorter [(0, CM)] (wVar 0) (wVar 1))))
def w_Sorter_uinitu : WS :=
  (wSeq (wSetF 0 tab_boxes (wVar 1))
    (wSetF 0 tab_rule (wVar 2)))
def w_Sorter_modulo : WS :=
  (wRet (wMakeE 0 C_Sorter_uinitu 2 0 [0, 1] [] (wVar 0) (wCons (wVar 1) (wCons (wCallP C_Remainder_uinitu 1 0 [0] [] (wCons (wVar 1) wNil) wNil) wNil)) wNil))
def w_Sorter_digits : WS :=
  (wRet (wMakeE 0 C_Sorter_uinitu 2 0 [0, 1] [] (wVar 0) (wCons (wOp fSub (wOp fAdd (wCB fMax2 (wCons (wVar 2) (wCons (wC (.int 0)) wNil))) (wVar 1)) (wC (.int 1))) (wCons (wCallP C_LastDigit_uinitu 2 0 [0, 1] [] (wCons (wVar 1) (wCons (wVar 2) wNil)) wNil) wNil)) wNil))
def w_Sorter_ucallu (CM : Con) : WS :=
  (wRet (wFInst1 tab_rule [(3, C_Remainder_ucallu), (2, C_LastDigit_ucallu), (1, CM)] (wVar 0) (wVar 1)))
def w_Sorter_umulu : WS :=
  (wRet (wCallP C_Sorter_uinitu 2 0 [0, 1] [] (wCons (wOp fMulA (wUn (fFld tab_boxes) (wVar 0)) (wUn (fFld tab_boxes) (wVar 1))) (wCons (wCallP C_Pairing_uinitu 2 0 [0, 1] [] (wCons (wVar 0) (wCons (wVar 1) wNil)) wNil) wNil)) wNil))
def w_l_pick : WS :=
  (wRet (wOp fIx (wVar 1) (wCall C_l_draw [] (wCons (wVar 0) (wCons (wCB fLen (wCons (wVar 1) wNil)) wNil)))))
def w_l_last : WS :=
  (wSeq (wAsgO 2 (wLst wNil))
    (wSeq (wWhile (wTest (wOp fGt (wVar 0) (wC (.int 0)))) (wSeq (wAppend 2 (wOp fMod (wCB fInt (wCons (wVar 0) wNil)) (wVar 1)))
    (wAsg 0 (wOp fFdiv (wVar 0) (wVar 1)))))
    (wFreeA 2 (wRet (wOp fIx (wLc (wItems asS (wVar 2)) (gN 3) (wTest (wOp (fEq true) (wVar 3) (wC (.int 0)))) (wVar 3) [3]) (wC (.int 0)))))))
def w_l_plan : WS :=
  (wSeq (wIfS (wTest (wOp (fEq false) (wCall C_l_draw [] (wCons (wVar 0) (wCons (wC (.int 3)) wNil))) (wC (.int 0)))) (wRet (wTup (wCons (wC (.str "modulo")) (wCons (wOp fAdd (wC (.int 1)) (wCall C_l_draw [] (wCons (wVar 0) (wCons (wC (.int 40)) wNil)))) wNil)))) wNext)
    (wRet (wTup (wCons (wC (.str "digits")) (wCons (wCall C_l_pick [] (wCons (wVar 0) (wCons (wLst (wCons (wC (.int 2)) (wCons (wC (.int 2)) (wCons (wC (.int 3)) (wCons (wC (.int 3)) (wCons (wC (.int 5)) (wCons (wC (.int 7)) (wCons (wC (.int 11)) (wCons (wC (.int 31)) wNil))))))))) wNil))) (wCons (wOp fSub (wCall C_l_draw [] (wCons (wVar 0) (wCons (wC (.int 52)) wNil))) (wC (.int 11))) wNil))))))
def w_l_made : WS :=
  (wSeq (wIfS (wTest (wOp (fEq false) (wOp fIx (wVar 1) (wC (.int 0))) (wC (.str "modulo")))) (wRet (wIf (wTest (wOp (fEq false) (wCall C_l_draw [] (wCons (wVar 0) (wCons (wC (.int 2)) wNil))) (wC (.int 0)))) (wCMeth 0 C_Sorter_modulo 1 0 [0] [] (wCls 0) (wCons (wOp fIx (wVar 1) (wC (.int 1))) wNil) wNil) (wCMeth 0 C_Sorter_modulo 0 1 [0] [] (wCls 0) wNil (wCons (wOp fIx (wVar 1) (wC (.int 1))) wNil)))) wNext)
    (wSeq (wIfS (wAnd (wTest (wOp (fEq false) (wOp fIx (wVar 1) (wC (.int 2))) (wC (.int 0)))) (wTest (wOp (fEq false) (wCall C_l_draw [] (wCons (wVar 0) (wCons (wC (.int 2)) wNil))) (wC (.int 0))))) (wRet (wIf (wTest (wOp (fEq false) (wCall C_l_draw [] (wCons (wVar 0) (wCons (wC (.int 2)) wNil))) (wC (.int 0)))) (wCMeth 0 C_Sorter_digits 1 0 [0, 1] [.int 0] (wCls 0) (wCons (wOp fIx (wVar 1) (wC (.int 1))) wNil) wNil) (wCMeth 0 C_Sorter_digits 0 1 [0, 1] [.int 0] (wCls 0) wNil (wCons (wOp fIx (wVar 1) (wC (.int 1))) wNil)))) wNext)
    (wSeq (wIfS (wTest (wOp (fEq false) (wCall C_l_draw [] (wCons (wVar 0) (wCons (wC (.int 2)) wNil))) (wC (.int 0)))) (wRet (wCMeth 0 C_Sorter_digits 1 1 [0, 1] [] (wCls 0) (wCons (wOp fIx (wVar 1) (wC (.int 1))) wNil) (wCons (wOp fIx (wVar 1) (wC (.int 2))) wNil))) wNext)
    (wRet (wCMeth 0 C_Sorter_digits 0 2 [1, 0] [] (wCls 0) wNil (wCons (wOp fIx (wVar 1) (wC (.int 2))) (wCons (wOp fIx (wVar 1) (wC (.int 1))) wNil)))))))
def w_l_many : WS :=
  (wSeq (wIfS (wTest (wOp (fEq false) (wOp fIx (wVar 0) (wC (.int 0))) (wC (.str "modulo")))) (wRet (wOp fIx (wVar 0) (wC (.int 1)))) wNext)
    (wRet (wOp fSub (wOp fAdd (wCB fMax2 (wCons (wOp fIx (wVar 0) (wC (.int 2))) (wCons (wC (.int 0)) wNil))) (wOp fIx (wVar 0) (wC (.int 1)))) (wC (.int 1)))))
def w_l_place : WS :=
  (wSeq (wIfS (wTest (wOp (fEq false) (wOp fIx (wVar 0) (wC (.int 0))) (wC (.str "modulo")))) (wRet (wOp fMod (wCB fInt (wCons (wVar 1) wNil)) (wOp fIx (wVar 0) (wC (.int 1))))) wNext)
    (wSeq (wIfS (wTest (wOp fLe (wVar 1) (wOp fIx (wVar 0) (wC (.int 2))))) (wRet (wOp fSub (wVar 1) (wC (.int 1)))) wNext)
    (wRet (wOp fSub (wOp fAdd (wCB fMax2 (wCons (wOp fIx (wVar 0) (wC (.int 2))) (wCons (wC (.int 0)) wNil))) (wCall C_l_last [] (wCons (wOp fSub (wVar 1) (wOp fIx (wVar 0) (wC (.int 2)))) (wCons (wOp fIx (wVar 0) (wC (.int 1))) wNil)))) (wC (.int 1))))))
def w_l_integers : WS :=
  (wSeq (wAsgO 2 (wLRg2 (wC (.int 1)) (wC (.int 52))))
    (wSeq (wFor (wItems asS (wVar 1)) (gN 3) (wFor (wRng1 (wCons (wC (.int 4)) wNil)) (gN 4) (wSeq (wAsg 5 (wOp fAdd (wC (.int 1)) (wCall C_l_draw [] (wCons (wVar 0) (wCons (wCall C_l_pick [] (wCons (wVar 0) (wCons (wLst (wCons (wC (.int 5)) (wCons (wC (.int 100)) (wCons (wOp fPow (wC (.int 10)) (wC (.int 20))) wNil)))) wNil))) wNil)))))
    (wSeq (wFor (wRng1 (wCons (wCall C_l_draw [] (wCons (wVar 0) (wCons (wC (.int 9)) wNil))) wNil)) (gN 6) (wAsg 5 (wOp fMulA (wVar 5) (wOp fIx (wVar 3) (wC (.int 1))))))
    (wSeq (wAsg 7 (wIf (wTest (wOp (fEq false) (wOp fIx (wVar 3) (wC (.int 0))) (wC (.str "digits")))) (wOp fIx (wVar 3) (wC (.int 2))) (wC (.int 0))))
    (wAppend 2 (wCB fMax2 (wCons (wC (.int 1)) (wCons (wOp fAdd (wVar 5) (wVar 7)) wNil)))))))))
    (wRet (wVar 2))))
def w_l_right : WS :=
  (wSeq (wAsgO 1 (wLc (wRng1 (wCons (wC (.int 3)) wNil)) (gN 2) wYes (wCall C_l_plan [] (wCons (wVar 0) wNil)) [2]))
    (wSeq (wIfS (wTest (wOp (fEq false) (wCall C_l_draw [] (wCons (wVar 0) (wCons (wC (.int 4)) wNil))) (wC (.int 0)))) (wSetIx 1 (wOp fIx (wVar 1) (wC (.int 0))) (wC (.int 1))) wNext)
    (wSeq (wPar3 3 false 4 false 5 false (wCall C_l_made [] (wCons (wVar 0) (wCons (wOp fIx (wVar 1) (wC (.int 0))) wNil))) (wCall C_l_made [] (wCons (wVar 0) (wCons (wOp fIx (wVar 1) (wC (.int 1))) wNil))) (wCall C_l_made [] (wCons (wVar 0) (wCons (wOp fIx (wVar 1) (wC (.int 2))) wNil))))
    (wFreeA 1 (wSeq (wAsg 6 (wLc (wItems asS (wVar 1)) (gN 7) wYes (wCall C_l_many [] (wCons (wVar 7) wNil)) [7]))
    (wSeq (wPar3 8 false 9 false 10 false (wBop 0 C_Sorter_umulu (wVar 3) (wVar 4)) (wBop 0 C_Sorter_umulu (wBop 0 C_Sorter_umulu (wVar 3) (wVar 4)) (wVar 5)) (wBop 0 C_Sorter_umulu (wVar 3) (wBop 0 C_Sorter_umulu (wVar 4) (wVar 5))))
    (wSeq (wAsg 11 (wOp fMulA (wOp fMulA (wOp fIx (wVar 6) (wC (.int 0))) (wOp fIx (wVar 6) (wC (.int 1)))) (wOp fIx (wVar 6) (wC (.int 2)))))
    (wSeq (wAsg 12 (wLst (wCons (wUn (fFld tab_boxes) (wVar 3)) (wCons (wUn (fFld tab_boxes) (wVar 4)) (wCons (wUn (fFld tab_boxes) (wVar 5)) (wCons (wUn (fFld tab_boxes) (wVar 8)) (wCons (wUn (fFld tab_boxes) (wVar 9)) (wCons (wUn (fFld tab_boxes) (wVar 10)) wNil))))))))
    (wSeq (wIfS (wTest (wOp (fEq true) (wCB fRepr (wCons (wVar 12) wNil)) (wCB fRepr (wCons (wOp fAdd (wVar 6) (wLst (wCons (wOp fMulA (wOp fIx (wVar 6) (wC (.int 0))) (wOp fIx (wVar 6) (wC (.int 1)))) (wCons (wVar 11) (wCons (wVar 11) wNil))))) wNil)))) (wRet (wC (.bl false))) wNext)
    (wFreeA 1 (wSeq (wFor (wItems asS (wCall C_l_integers [] (wCons (wVar 0) (wCons (wVar 1) wNil)))) (gN 2) (wFreeA 1 (wSeq (wAsgG (gLst3 3 (gCons3 (gN 13) (gCons3 (gN 14) (gCons3 (gN 15) gNil3)))) (wLc (wItems asS (wVar 1)) (gN 7) wYes (wCall C_l_place [] (wCons (wVar 7) (wCons (wVar 2) wNil))) [7]))
    (wSeq (wAsg 16 (wOp fAdd (wOp fMulA (wVar 13) (wOp fIx (wVar 6) (wC (.int 1)))) (wVar 14)))
    (wSeq (wAsg 17 (wLst (wCons (wVar 13) (wCons (wVar 14) (wCons (wVar 15) (wCons (wVar 16) (wCons (wOp fAdd (wOp fMulA (wVar 16) (wOp fIx (wVar 6) (wC (.int 2)))) (wVar 15)) (wCons (wOp fAdd (wOp fMulA (wVar 16) (wOp fIx (wVar 6) (wC (.int 2)))) (wVar 15)) wNil))))))))
    (wSeq (wAsg 12 (wLst (wCons (wMeth 0 (C_Sorter_ucallu 3) 1 0 [0] [] (wVar 3) (wCons (wVar 2) wNil) wNil) (wCons (wMeth 0 (C_Sorter_ucallu 3) 1 0 [0] [] (wVar 4) (wCons (wVar 2) wNil) wNil) (wCons (wMeth 0 (C_Sorter_ucallu 3) 1 0 [0] [] (wVar 5) (wCons (wVar 2) wNil) wNil) (wCons (wMeth 0 (C_Sorter_ucallu 3) 1 0 [0] [] (wVar 8) (wCons (wVar 2) wNil) wNil) (wCons (wMeth 0 (C_Sorter_ucallu 3) 1 0 [0] [] (wVar 9) (wCons (wVar 2) wNil) wNil) (wCons (wMeth 0 (C_Sorter_ucallu 3) 1 0 [0] [] (wVar 10) (wCons (wVar 2) wNil) wNil) wNil))))))))
    (wSeq (wIfS (wOr (wTest (wOp (fEq true) (wCB fRepr (wCons (wVar 12) wNil)) (wCB fRepr (wCons (wVar 17) wNil)))) (wNot (wTest (wChain fLe fLt (wC (.int 0)) (wOp fIx (wVar 17) (wC (.int 4))) (wVar 11))))) (wRet (wC (.bl false))) wNext)
    (wIfS (wTest (wOp (fEq true) (wCB fRepr (wCons (wLst (wCons (wMeth 0 (C_Sorter_ucallu 3) 0 1 [0] [] (wVar 3) wNil (wCons (wVar 2) wNil)) (wCons (wMeth 0 (C_Sorter_ucallu 3) 0 1 [0] [] (wVar 9) wNil (wCons (wVar 2) wNil)) wNil))) wNil)) (wCB fRepr (wCons (wLst (wCons (wVar 13) (wCons (wOp fIx (wVar 17) (wC (.int 4))) wNil))) wNil)))) (wRet (wC (.bl false))) wNext))))))))
    (wRet (wOp (fEq false) (wCB fRepr (wCons (wLst (wCons (wUn (fFld tab_boxes) (wVar 3)) (wCons (wUn (fFld tab_boxes) (wVar 4)) (wCons (wUn (fFld tab_boxes) (wVar 5)) wNil)))) wNil)) (wCB fRepr (wCons (wVar 6) wNil)))))))))))))))
def w_law : WS :=
  (wSeq (wFor (wRng1 (wCons (wC (.int 8)) wNil)) (gN 2) (wIfS (wNot (wTest (wCall C_l_right [] (wCons (wVar 1) wNil)))) (wRet (wC (.bl false))) wNext))
    (wRet (wC (.bl true))))
end Pg
namespace Pg
open PySem PySem.Spec PyProof.Rows L2 L3
theorem len_last_digit : ∀ ds n Q, C_last_digit ds n Q → ds.length = 2 := fun ds n Q ⟨_, _, _, e, _⟩ => by rw [e]; rfl
theorem pf_last_digit : ∀ ds n Q, C_last_digit ds n Q → w_last_digit ⟨fun δ => Q .non δ.n, Q, fun _ => False, fun _ => False⟩ ⟨start3 N_last_digit ds, n⟩ := by
  rintro ds n Q ⟨i0, b, d, rfl, b2, b40, i1, hd, q⟩
  simp [w_last_digit]
  refine ⟨fun t δ => ∃ i : Int, 0 < i ∧ Ld b i d ∧ t = i.toNat ∧ δ = ⟨[some (.sh (.int i0)), some (.sh (.int b)), some (.sh (.int i))], n⟩, ⟨_, i0, i1, hd, rfl, rfl⟩, ?_⟩
  rintro t δ ⟨i, ip, hd, rfl, rfl⟩
  have cd : CDivA i b := (Sz.pos (k := 10) (by omega) (by omega) : Sz 10 b).cdiv (by omega) (by decide)
  have b0 : ¬ b = 0 := by omega
  simp [fmod_pos (show 0 ≤ b by omega), fdiv_pos (show 0 ≤ b by omega), cd, b0]
  cases hd with
  | here h => exact ⟨fun z => (h z).elim, fun _ => q⟩
  | up h hd =>
    have e : b * (i / b) = i := by have := Int.mul_ediv_add_emod i b; omega
    have p1 : 0 < i / b := by
      refine Classical.byContradiction fun z => ?_
      have : b * (i / b) ≤ 0 := Int.mul_nonpos_of_nonneg_of_nonpos (by omega) (by omega)
      omega
    have p2 : i / b < i := Int.ediv_lt_self_of_pos_of_ne_one ip (by omega)
    exact ⟨fun _ => ⟨(i / b).toNat, by omega, i / b, p1, hd, rfl, rfl⟩, fun z => (z h).elim⟩
theorem len_Remainder_ucallu : ∀ ds n Q, C_Remainder_ucallu ds n Q → ds.length = 2 := fun ds n Q ⟨_, _, e, _⟩ => by rw [e]; rfl
theorem pf_Remainder_ucallu : ∀ ds n Q, C_Remainder_ucallu ds n Q → w_Remainder_ucallu ⟨fun δ => Q .non δ.n, Q, fun _ => False, fun _ => False⟩ ⟨start3 N_Remainder_ucallu ds, n⟩ := by
  rintro ds n Q ⟨m, i, rfl, h, q⟩
  have b0 : ¬ m = 0 := by omega
  simp [w_Remainder_ucallu, fmod_pos (show 0 ≤ m by omega), b0, q]
theorem len_LastDigit_ucallu : ∀ ds n Q, C_LastDigit_ucallu ds n Q → ds.length = 2 := fun ds n Q ⟨_, _, _, e, _⟩ => by rw [e]; rfl
theorem pf_LastDigit_ucallu : ∀ ds n Q, C_LastDigit_ucallu ds n Q → w_LastDigit_ucallu ⟨fun δ => Q .non δ.n, Q, fun _ => False, fun _ => False⟩ ⟨start3 N_LastDigit_ucallu ds, n⟩ := by
  rintro ds n Q ⟨b, a, i, rfl, b2, b40, q⟩
  simp [w_LastDigit_ucallu]
  rcases q with ⟨h, q⟩ | ⟨d, h, hd, q⟩
  · exact ⟨fun _ => q, fun z => by omega⟩
  · refine ⟨fun z => by omega, fun _ => ⟨i - a, b, d, rfl, b2, b40, by omega, hd, ?_⟩⟩
    have e : (if a < 0 then (0 : Int) else a) = max a 0 := by split <;> omega
    simp [e, q]
theorem Ld.ex {b : Int} (h : 2 ≤ b) : ∀ (m : Nat) (n : Int), 0 < n → n.toNat ≤ m → ∃ d, Ld b n d
  | 0, n, h0, h1 => by omega
  | m + 1, n, h0, h1 => by
    by_cases z : n % b = 0
    · have q : n / b < n := Int.ediv_lt_self_of_pos_of_ne_one h0 (by omega)
      have e : b * (n / b) = n := by have := Int.mul_ediv_add_emod n b; omega
      have p1 : 0 < n / b := by
        refine Classical.byContradiction fun z => ?_
        have : b * (n / b) ≤ 0 := Int.mul_nonpos_of_nonneg_of_nonpos (by omega) (by omega)
        omega
      obtain ⟨d, hd⟩ := Ld.ex h m (n / b) p1 (by omega)
      exact ⟨d, .up z hd⟩
    · exact ⟨_, .here z⟩
theorem Ld.bd {b n d : Int} (h : 2 ≤ b) (l : Ld b n d) : 1 ≤ d ∧ d < b := by
  induction l with
  | here h0 =>
    rename_i n
    have := Int.emod_nonneg n (b := b) (by omega)
    have := Int.emod_lt_of_pos n (b := b) (by omega)
    omega
  | up _ _ ih => exact ih
theorem Plc.ex {p : Pln} (ok : p.ok) {i : Int} (hi : 0 < i) : ∃ x, Plc p i x := by
  cases p with
  | md m => exact ⟨_, .md⟩
  | dg b a =>
    obtain ⟨h1, h2, h3, h4⟩ := ok
    by_cases z : i ≤ a
    · exact ⟨_, .lo z⟩
    · obtain ⟨d, hd⟩ := Ld.ex h1 _ (i - a) (by omega) (Nat.le_refl _)
      exact ⟨_, .hi (by omega) hd⟩
theorem Plc.bd {p : Pln} (ok : p.ok) {i x : Int} (hi : 0 < i) (h : Plc p i x) : 0 ≤ x ∧ x < p.bx := by
  cases h with
  | md =>
    obtain ⟨h1, h2⟩ := ok
    rename_i m
    exact ⟨Int.emod_nonneg i (by omega), Int.emod_lt_of_pos i (by omega)⟩
  | lo h =>
    obtain ⟨h1, h2, h3, h4⟩ := ok
    show 0 ≤ i - 1 ∧ i - 1 < max _ 0 + _ - 1
    omega
  | hi h hd =>
    obtain ⟨h1, h2, h3, h4⟩ := ok
    have := hd.bd h1
    show 0 ≤ _ ∧ _ < max _ 0 + _ - 1
    omega
theorem bx_bd {p : Pln} (ok : p.ok) : 1 ≤ p.bx ∧ p.bx ≤ 100 := by
  cases p with
  | md m => obtain ⟨h1, h2⟩ := ok; show 1 ≤ m ∧ m ≤ 100; omega
  | dg b a => obtain ⟨h1, h2, h3, h4⟩ := ok; show 1 ≤ max a 0 + b - 1 ∧ max a 0 + b - 1 ≤ 100; omega
theorem max0 (a : Int) : (if (0 : Int) > a then (0 : Int) else a) = max a 0 := by split <;> omega
theorem pf_l_draw : ∀ (m turn cell : Int) (n : Nat) (Qd : D → Nat → Prop), 1 ≤ m → m.natAbs.log2 < 9000 → 0 ≤ turn → turn ≤ 2 ^ 40 → (∀ r : Int, 0 ≤ r → r < m → Qd (.int r) n) →
    w_l_draw ⟨fun δ => Qd .non δ.n, Qd, fun _ => False, fun _ => False⟩ ⟨some (.sh .deck) :: some (.sh (.int m)) :: some (.sh (.int turn)) :: some (.sh (.int cell)) :: List.replicate (N_l_draw.length - 4) none, n⟩ := by
  intro m turn cell n Qd m1 m2 t0 t1 q
  exact mixA (a := 60449) (k := 53) (e := 107) (.n (by decide)) (.n (by decide)) m turn cell n Qd m1 m2 t0 t1 q
theorem len_l_pick : ∀ ds n Q, C_l_pick ds n Q → ds.length = 2 := fun ds n Q ⟨_, e, _⟩ => by rcases e with e | e <;> rw [e] <;> rfl
theorem pf_l_pick : ∀ ds n Q, C_l_pick ds n Q → w_l_pick ⟨fun δ => Q .non δ.n, Q, fun _ => False, fun _ => False⟩ ⟨start3 N_l_pick ds, n⟩ := by
  rintro ds n Q ⟨xs, e, h0, hl, hn, q⟩
  have h1 : 0 < xs.length := List.length_pos_iff.mpr h0
  have draw : ∀ Q : D → Nat → Prop, (∀ r : Int, 0 ≤ r → r < xs.length → Q (.int r) (n + 1)) → C_l_draw [.deck, .int xs.length] n Q := fun Q q => draw_le (by omega) ((sz_len (k := 10) (by omega)).mono (by decide)) hn q
  rcases e with rfl | rfl
  · simp [w_l_pick]
    refine draw _ fun r r0 r1 => ?_
    obtain ⟨x, hx, e⟩ := atI_some r0 r1
    simp [e, q x hx]
  · simp [w_l_pick]
    refine draw _ fun r r0 r1 => ?_
    obtain ⟨x, hx, e⟩ := atI_some r0 r1
    simp [e, q x hx]
theorem len_Remainder_uinitu : ∀ ds n Q, C_Remainder_uinitu ds n Q → ds.length + 1 = 2 := fun ds n Q ⟨_, e, _⟩ => by rw [e]; rfl
theorem pf_Remainder_uinitu : ∀ ds n Q, C_Remainder_uinitu ds n Q → w_Remainder_uinitu ⟨fun δ => ∃ fs, δ.sl[0]? = some (some (.ow (.ins 3 fs))) ∧ Q (.ins 3 fs) δ.n, fun _ _ => False, fun _ => False, fun _ => False⟩ ⟨startI N_Remainder_uinitu 3 ds, n⟩ := by
  rintro ds n Q ⟨m, rfl, q⟩
  simp [w_Remainder_uinitu, startI]
  exact ⟨3, [], ⟨rfl, rfl⟩, 0, ⟨rfl, rfl⟩, by simp, _, ⟨rfl, rfl⟩, q⟩
theorem len_LastDigit_uinitu : ∀ ds n Q, C_LastDigit_uinitu ds n Q → ds.length + 1 = 3 := fun ds n Q ⟨_, _, e, _⟩ => by rw [e]; rfl
theorem pf_LastDigit_uinitu : ∀ ds n Q, C_LastDigit_uinitu ds n Q → w_LastDigit_uinitu ⟨fun δ => ∃ fs, δ.sl[0]? = some (some (.ow (.ins 2 fs))) ∧ Q (.ins 2 fs) δ.n, fun _ _ => False, fun _ => False, fun _ => False⟩ ⟨startI N_LastDigit_uinitu 2 ds, n⟩ := by
  rintro ds n Q ⟨b, a, rfl, q⟩
  simp [w_LastDigit_uinitu, startI]
  exact ⟨2, [], ⟨rfl, rfl⟩, 0, ⟨rfl, rfl⟩, by simp, 2, [.int b], ⟨rfl, rfl⟩, 1, ⟨rfl, rfl⟩, by simp, _, ⟨rfl, rfl⟩, q⟩
theorem len_Pairing_uinitu : ∀ ds n Q, C_Pairing_uinitu ds n Q → ds.length + 1 = 3 := fun ds n Q ⟨_, _, e, _⟩ => by rw [e]; rfl
theorem pf_Pairing_uinitu : ∀ ds n Q, C_Pairing_uinitu ds n Q → w_Pairing_uinitu ⟨fun δ => ∃ fs, δ.sl[0]? = some (some (.ow (.ins 1 fs))) ∧ Q (.ins 1 fs) δ.n, fun _ _ => False, fun _ => False, fun _ => False⟩ ⟨startI N_Pairing_uinitu 1 ds, n⟩ := by
  rintro ds n Q ⟨x, y, rfl, q⟩
  simp [w_Pairing_uinitu, startI]
  exact ⟨1, [], ⟨rfl, rfl⟩, 0, ⟨rfl, rfl⟩, by simp, 1, [x], ⟨rfl, rfl⟩, 1, ⟨rfl, rfl⟩, by simp, _, ⟨rfl, rfl⟩, q⟩
theorem len_Sorter_uinitu : ∀ ds n Q, C_Sorter_uinitu ds n Q → ds.length + 1 = 3 := fun ds n Q ⟨_, _, e, _⟩ => by rw [e]; rfl
theorem pf_Sorter_uinitu : ∀ ds n Q, C_Sorter_uinitu ds n Q → w_Sorter_uinitu ⟨fun δ => ∃ fs, δ.sl[0]? = some (some (.ow (.ins 0 fs))) ∧ Q (.ins 0 fs) δ.n, fun _ _ => False, fun _ => False, fun _ => False⟩ ⟨startI N_Sorter_uinitu 0 ds, n⟩ := by
  rintro ds n Q ⟨x, y, rfl, q⟩
  simp [w_Sorter_uinitu, startI]
  exact ⟨0, [], ⟨rfl, rfl⟩, 0, ⟨rfl, rfl⟩, by simp, 0, [x], ⟨rfl, rfl⟩, 1, ⟨rfl, rfl⟩, by simp, _, ⟨rfl, rfl⟩, q⟩
theorem len_Sorter_ucallu : ∀ k ds n Q, C_Sorter_ucallu k ds n Q → ds.length = 2 := fun k ds n Q ⟨_, _, _, e, _⟩ => by rw [e]; rfl
theorem pf_Sorter_ucallu : ∀ k ds n Q, C_Sorter_ucallu k ds n Q → w_Sorter_ucallu (C_Pairing_ucallu k) ⟨fun δ => Q .non δ.n, Q, fun _ => False, fun _ => False⟩ ⟨start3 N_Sorter_ucallu ds, n⟩ := by
  rintro k ds n Q ⟨s, i, x, rfl, hi, h, q⟩
  cases h with
  | base ok pl =>
    cases pl with
    | md =>
      obtain ⟨h1, h2⟩ := ok
      simp [w_Sorter_ucallu, Pln.so, Pln.ru]
      exact ⟨_, _, ⟨rfl, rfl⟩, C_Remainder_ucallu, rfl, _, i, rfl, by omega, q⟩
    | lo h =>
      obtain ⟨h1, h2, h3, h4⟩ := ok
      simp [w_Sorter_ucallu, Pln.so, Pln.ru]
      exact ⟨_, _, ⟨rfl, rfl⟩, C_LastDigit_ucallu, rfl, _, _, i, rfl, h1, h2, .inl ⟨h, q⟩⟩
    | hi h hd =>
      obtain ⟨h1, h2, h3, h4⟩ := ok
      simp [w_Sorter_ucallu, Pln.so, Pln.ru]
      exact ⟨_, _, ⟨rfl, rfl⟩, C_LastDigit_ucallu, rfl, _, _, i, rfl, h1, h2, .inr ⟨_, h, hd, q⟩⟩
  | pair a b sx sB =>
    simp [w_Sorter_ucallu]
    rename_i k _ _ _ _ _ _ _
    exact ⟨_, _, ⟨rfl, rfl⟩, C_Pairing_ucallu (k + 1), rfl, _, _, i, _, _, _, _, rfl, hi, a, b, sx, sB, q⟩
theorem len_Pairing_ucallu : ∀ k ds n Q, C_Pairing_ucallu k ds n Q → ds.length = 2
  | 0, _, _, _, h => h.elim
  | k + 1, ds, n, Q, ⟨_, _, _, _, _, _, _, e, _⟩ => by rw [e]; rfl
theorem pf_Pairing_ucallu : ∀ k ds n Q, C_Pairing_ucallu k ds n Q → w_Pairing_ucallu (C_Sorter_ucallu (k - 1)) ⟨fun δ => Q .non δ.n, Q, fun _ => False, fun _ => False⟩ ⟨start3 N_Pairing_ucallu ds, n⟩
  | 0, _, _, _, h => h.elim
  | k + 1, ds, n, Q, ⟨B1, B2, i, x, y, r1, r2, e, hi, h1, h2, sx, sB, q⟩ => by
    subst e
    simp [w_Pairing_ucallu]
    refine ⟨_, _, ⟨rfl, rfl⟩, C_Sorter_ucallu k, rfl, _, i, x, rfl, hi, h1, ?_⟩
    simp [sx.cmul sB (by decide)]
    exact ⟨_, _, ⟨rfl, rfl⟩, C_Sorter_ucallu k, rfl, _, i, y, rfl, hi, h2, by simpa using q⟩
theorem len_Sorter_umulu : ∀ ds n Q, C_Sorter_umulu ds n Q → ds.length = 2 := fun ds n Q ⟨_, _, _, _, e, _⟩ => by rw [e]; rfl
theorem pf_Sorter_umulu : ∀ ds n Q, C_Sorter_umulu ds n Q → w_Sorter_umulu ⟨fun δ => Q .non δ.n, Q, fun _ => False, fun _ => False⟩ ⟨start3 N_Sorter_umulu ds, n⟩ := by
  rintro ds n Q ⟨B1, B2, r1, r2, rfl, s1, s2, q⟩
  simp [w_Sorter_umulu, s1.cmul s2 (by decide)]
  exact ⟨_, _, rfl, _, _, rfl, q⟩
theorem len_Sorter_modulo : ∀ ds n Q, C_Sorter_modulo ds n Q → ds.length = 2 := fun ds n Q ⟨_, e, _⟩ => by rw [e]; rfl
theorem pf_Sorter_modulo : ∀ ds n Q, C_Sorter_modulo ds n Q → w_Sorter_modulo ⟨fun δ => Q .non δ.n, Q, fun _ => False, fun _ => False⟩ ⟨start3 N_Sorter_modulo ds, n⟩ := by
  rintro ds n Q ⟨m, rfl, q⟩
  simp [w_Sorter_modulo]
  exact ⟨m, rfl, _, _, rfl, q⟩
theorem len_Sorter_digits : ∀ ds n Q, C_Sorter_digits ds n Q → ds.length = 3 := fun ds n Q ⟨_, _, e, _⟩ => by rw [e]; rfl
theorem pf_Sorter_digits : ∀ ds n Q, C_Sorter_digits ds n Q → w_Sorter_digits ⟨fun δ => Q .non δ.n, Q, fun _ => False, fun _ => False⟩ ⟨start3 N_Sorter_digits ds, n⟩ := by
  rintro ds n Q ⟨b, a, rfl, q⟩
  have e := max0 a
  simp [w_Sorter_digits] at e ⊢
  rw [e]
  exact ⟨b, a, rfl, _, _, rfl, q⟩
theorem len_l_last : ∀ ds n Q, C_l_last ds n Q → ds.length = 2 := fun ds n Q ⟨_, _, _, e, _⟩ => by rw [e]; rfl
theorem pf_l_last : ∀ ds n Q, C_l_last ds n Q → w_l_last ⟨fun δ => Q .non δ.n, Q, fun _ => False, fun _ => False⟩ ⟨start3 N_l_last ds, n⟩ := by
  rintro ds n Q ⟨i0, b, d, rfl, b2, b40, i1, sz, hd, q⟩
  simp [w_l_last]
  refine ⟨fun t δ => ∃ (i : Int) (fd : List Int) (j : Nat), 0 ≤ i ∧ fd.length + j = 200 ∧ i.toNat < 2 ^ j ∧ (((∀ x ∈ fd, x = 0) ∧ 0 < i ∧ Ld b i d) ∨ (fd.filter fun x => decide (x ≠ 0)).head? = some d) ∧ t = i.toNat ∧ δ = ⟨[some (.sh (.int i)), some (.sh (.int b)), some (.ow (.lst (fd.map D.int))), none], n⟩, ⟨_, i0, [], 200, by omega, rfl, ?_, .inl ⟨by simp, i1, hd⟩, rfl, rfl⟩, ?_⟩
  · have : i0.natAbs < 2 ^ 200 := sz
    omega
  rintro t δ ⟨i, fd, j, i0', hl, hs, hc, rfl, rfl⟩
  have cd : CDivA i b := (Sz.pos (k := 10) (by omega) (by omega) : Sz 10 b).cdiv (by omega) (by decide)
  have b0 : ¬ b = 0 := by omega
  have bp : 0 ≤ b := by omega
  simp [fmod_pos bp, fdiv_pos bp, cd, b0]
  refine ⟨fun ip => ?_, fun iz => ?_⟩
  · obtain ⟨j, rfl⟩ : ∃ l, j = l + 1 := ⟨j - 1, by
      have : j ≠ 0 := fun z => by subst z; simp at hs; omega
      omega⟩
    have q1 : i / b < i := Int.ediv_lt_self_of_pos_of_ne_one ip (by omega)
    have q2 : 0 ≤ i / b := Int.ediv_nonneg i0' (by omega)
    have q3 : 2 * (i / b) ≤ i := by
      have := Int.mul_ediv_add_emod i b
      have := Int.emod_nonneg i b0
      have : 2 * (i / b) ≤ b * (i / b) := Int.mul_le_mul_of_nonneg_right b2 q2
      omega
    rw [Nat.pow_succ] at hs
    refine ⟨by omega, (i / b).toNat, by omega, i / b, q2, fd ++ [i % b], ⟨j, by simp; omega, by omega, ?_, rfl, by simp⟩⟩
    rcases hc with ⟨z, _, l⟩ | h
    · cases l with
      | here h0 =>
        right
        have e : fd.filter (fun x => !decide (x = 0)) = [] := List.filter_eq_nil_iff.mpr fun x hx => by simp [z x hx]
        have e2 : fd.find? (fun x => !decide (x = 0)) = none := List.find?_eq_none.mpr fun x hx => by simp [z x hx]
        simp [List.filter_append, e, h0, e2]
      | up h0 l =>
        left
        refine ⟨fun x hx => ?_, ?_, l⟩
        · rcases List.mem_append.mp hx with h | h
          · exact z x h
          · simp at h; omega
        · have e : b * (i / b) = i := by have := Int.mul_ediv_add_emod i b; omega
          refine Classical.byContradiction fun z => ?_
          have : b * (i / b) ≤ 0 := Int.mul_nonpos_of_nonneg_of_nonpos (by omega) (by omega)
          omega
    · right
      simp at h
      simp [List.filter_append, h]
  · have hc : (fd.filter fun x => decide (x ≠ 0)).head? = some d := by
      rcases hc with ⟨_, h, _⟩ | h
      · omega
      · exact h
    refine wLc_inv (fun k acc δ => acc = ((fd.take k).filter fun x => decide (x ≠ 0)).map D.int ∧ δ = ⟨[some (.sh (.int i)), some (.sh (.int b)), some (.sh (.lst (fd.map D.int))), none], n⟩) ⟨by simp, rfl⟩ ?_ ?_
    · rintro k e acc δ he ⟨rfl, rfl⟩ N hN
      have hk : k < fd.length := by
        have := (List.getElem?_eq_some_iff.mp he).1
        simpa using this
      have ee : e = .int fd[k] := by
        rw [List.getElem?_map, List.getElem?_eq_getElem hk] at he
        simpa using he.symm
      subst ee
      have et : (fd.take (k + 1)).filter (fun x => decide (x ≠ 0)) = (fd.take k).filter (fun x => decide (x ≠ 0)) ++ [fd[k]].filter (fun x => decide (x ≠ 0)) := by
        rw [List.take_succ, List.getElem?_eq_getElem hk, List.filter_append]; rfl
      have l1 : ((fd.take k).filter (fun x => decide (x ≠ 0))).length ≤ 200 := Nat.le_trans (List.length_filter_le _ _) (by rw [List.length_take]; omega)
      rw [et] at hN
      simp at l1 hN
      simp
      refine ⟨fun h => ⟨by omega, ?_⟩, fun h => ?_⟩
      · simpa [h] using hN
      · simpa [h] using hN
    · rintro acc δ ⟨rfl, rfl⟩
      rw [List.length_map, List.take_length]
      cases hf : fd.filter (fun x => decide (x ≠ 0)) with
      | nil => rw [hf] at hc; cases hc
      | cons x xs =>
        rw [hf] at hc
        cases hc
        simp [atI_zero, q]
theorem len_l_plan : ∀ ds n Q, C_l_plan ds n Q → ds.length = 1 := fun ds n Q ⟨e, _⟩ => by rw [e]; rfl
theorem pf_l_plan : ∀ ds n Q, C_l_plan ds n Q → w_l_plan ⟨fun δ => Q .non δ.n, Q, fun _ => False, fun _ => False⟩ ⟨start3 N_l_plan ds, n⟩ := by
  rintro ds n Q ⟨rfl, hn, q⟩
  simp [w_l_plan]
  refine draw_le (by decide) (.n (by decide)) (by omega) fun a a0 a1 => ?_
  simp
  refine ⟨fun _ => draw_le (by decide) (.n (by decide)) (by omega) fun m m0 m1 => ?_, fun _ => ?_⟩
  · simp
    exact q (.md (1 + m)) _ ⟨by omega, by omega⟩ (by omega)
  · refine pick_ints (fun i => 2 ≤ i ∧ i ≤ 31) (by simp) (by simp) (by omega) (by simp) fun b hb => ?_
    refine draw_le (by decide) (.n (by decide)) (by omega) fun m m0 m1 => ?_
    simp
    exact q (.dg b (m - 11)) _ ⟨by omega, by omega, by omega, by omega⟩ (by omega)
theorem len_l_made : ∀ ds n Q, C_l_made ds n Q → ds.length = 2 := fun ds n Q ⟨_, e, _⟩ => by rw [e]; rfl
theorem pf_l_made : ∀ ds n Q, C_l_made ds n Q → w_l_made ⟨fun δ => Q .non δ.n, Q, fun _ => False, fun _ => False⟩ ⟨start3 N_l_made ds, n⟩ := by
  rintro ds n Q ⟨p, rfl, hn, q⟩
  cases p with
  | md m =>
    have e1 : L2.atI [D.str "modulo", D.int m] 1 = some (.int m) := L2.atI_nat (j := 1) rfl
    simp [w_l_made, Pln.d, atI_zero, e1]
    refine draw_le (by decide) (.n (by decide)) (by omega) fun a a0 a1 => ?_
    simp
    exact ⟨m, rfl, q _ (by omega)⟩
  | dg b a =>
    have e1 : L2.atI [D.str "digits", D.int b, D.int a] 1 = some (.int b) := L2.atI_nat (j := 1) rfl
    have e2 : L2.atI [D.str "digits", D.int b, D.int a] 2 = some (.int a) := L2.atI_nat (j := 2) rfl
    simp [w_l_made, Pln.d, atI_zero, e1, e2]
    refine ⟨fun z => absurd z (by decide), fun _ => ⟨fun ha => ?_, fun ha => ?_⟩⟩
    · subst ha
      refine draw_le (by decide) (.n (by decide)) (by omega) fun x x0 x1 => ?_
      simp
      refine draw_le (by decide) (.n (by decide)) (by omega) fun y y0 y1 => ?_
      simp
      exact ⟨b, 0, rfl, q _ (by omega)⟩
    · refine draw_le (by decide) (.n (by decide)) (by omega) fun y y0 y1 => ?_
      simp
      exact ⟨b, a, rfl, q _ (by omega)⟩
theorem len_l_many : ∀ ds n Q, C_l_many ds n Q → ds.length = 1 := fun ds n Q ⟨_, e, _⟩ => by rw [e]; rfl
theorem pf_l_many : ∀ ds n Q, C_l_many ds n Q → w_l_many ⟨fun δ => Q .non δ.n, Q, fun _ => False, fun _ => False⟩ ⟨start3 N_l_many ds, n⟩ := by
  rintro ds n Q ⟨p, rfl, q⟩
  cases p with
  | md m =>
    have e1 : L2.atI [D.str "modulo", D.int m] 1 = some (.int m) := L2.atI_nat (j := 1) rfl
    simp [w_l_many, Pln.d, atI_zero, e1]
    exact q
  | dg b a =>
    have e1 : L2.atI [D.str "digits", D.int b, D.int a] 1 = some (.int b) := L2.atI_nat (j := 1) rfl
    have e2 : L2.atI [D.str "digits", D.int b, D.int a] 2 = some (.int a) := L2.atI_nat (j := 2) rfl
    have e := max0 a
    simp [w_l_many, Pln.d, atI_zero, e1, e2] at e ⊢
    refine ⟨fun z => absurd z (by decide), fun _ => ?_⟩
    rw [e]
    exact q
theorem len_l_place : ∀ ds n Q, C_l_place ds n Q → ds.length = 2 := fun ds n Q ⟨_, _, _, e, _⟩ => by rw [e]; rfl
theorem pf_l_place : ∀ ds n Q, C_l_place ds n Q → w_l_place ⟨fun δ => Q .non δ.n, Q, fun _ => False, fun _ => False⟩ ⟨start3 N_l_place ds, n⟩ := by
  rintro ds n Q ⟨p, i, x, rfl, ok, hi, sz, pl, q⟩
  cases p with
  | md m =>
    have e1 : L2.atI [D.str "modulo", D.int m] 1 = some (.int m) := L2.atI_nat (j := 1) rfl
    obtain ⟨h1, h2⟩ := ok
    have m0 : ¬ m = 0 := by omega
    cases pl
    simp [w_l_place, Pln.d, atI_zero, e1, m0, fmod_pos (show 0 ≤ m by omega)]
    exact q
  | dg b a =>
    have e1 : L2.atI [D.str "digits", D.int b, D.int a] 1 = some (.int b) := L2.atI_nat (j := 1) rfl
    have e2 : L2.atI [D.str "digits", D.int b, D.int a] 2 = some (.int a) := L2.atI_nat (j := 2) rfl
    obtain ⟨h1, h2, h3, h4⟩ := ok
    have e := max0 a
    simp [w_l_place, Pln.d, atI_zero, e1, e2] at e ⊢
    refine ⟨fun z => absurd z (by decide), fun _ => ?_⟩
    cases pl with
    | lo h => exact ⟨fun _ => q, fun z => by omega⟩
    | hi h hd =>
      refine ⟨fun z => by omega, fun _ => ⟨i - a, b, _, rfl, h1, h2, by omega, ?_, hd, ?_⟩⟩
      · exact (sz.sub (.of (by omega) (by omega) : Sz 10 a)).mono (by decide)
      · simp only [fAdd_0, RD.d_0]
        simp [e]
        exact q
theorem pln_sh {p : Pln} (ok : p.ok) : ∃ (fs : List D) (nm : Str) (b : Int), p.d = .tup fs ∧ L2.atI fs 0 = some (.str nm) ∧ L2.atI fs 1 = some (.int b) ∧ 1 ≤ b ∧ b ≤ 40 ∧ (nm = "digits" → ∃ a : Int, L2.atI fs 2 = some (.int a) ∧ -11 ≤ a ∧ a ≤ 40) := by
  cases p with
  | md m => obtain ⟨h1, h2⟩ := ok; exact ⟨_, "modulo", m, rfl, atI_zero _ _, L2.atI_nat (j := 1) rfl, h1, h2, fun z => absurd z (by decide)⟩
  | dg b a => obtain ⟨h1, h2, h3, h4⟩ := ok; exact ⟨_, "digits", b, rfl, atI_zero _ _, L2.atI_nat (j := 1) rfl, by omega, h2, fun _ => ⟨a, L2.atI_nat (j := 2) rfl, h3, h4⟩⟩
theorem len_l_integers : ∀ ds n Q, C_l_integers ds n Q → ds.length = 2 := fun ds n Q ⟨_, _, _, e, _⟩ => by rw [e]; rfl
theorem pf_l_integers : ∀ ds n Q, C_l_integers ds n Q → w_l_integers ⟨fun δ => Q .non δ.n, Q, fun _ => False, fun _ => False⟩ ⟨start3 N_l_integers ds, n⟩ := by
  rintro ds n Q ⟨p1, p2, p3, rfl, ok1, ok2, ok3, hn, q⟩
  simp [w_l_integers]
  refine ⟨by unfold RgOk; decide, wLoop_inv (fun i δ => ∃ (is : List Int) (n' : Nat) (o3 o4 o5 o6 o7 : Option SV), (∀ x ∈ is, 0 < x ∧ Sz 180 x) ∧ is.length ≤ 51 + 4 * i ∧ n' ≤ n + 12 * i ∧
    δ = ⟨[some (.sh .deck), some (.sh (.lst [p1.d, p2.d, p3.d])), some (.ow (.lst (is.map D.int))), o3, o4, o5, o6, o7], n'⟩) ⟨(List.range 51).map fun k : Nat => 1 + (k : Int), n, none, none, none, none, none, ?_, by simp, by omega, by simp [rng]⟩ ?_ ?_⟩
  · intro x hx
    obtain ⟨k, hk, rfl⟩ := List.mem_map.mp hx
    have := List.mem_range.mp hk
    exact ⟨by omega, (Sz.pos (k := 10) (by omega) (by omega)).mono (by decide)⟩
  · rintro i d δ hd ⟨is, n', o3, o4, o5, o6, o7, his, hl, hn', rfl⟩ N hN
    have hi3 : i < 3 := by
      have := (List.getElem?_eq_some_iff.mp hd).1
      simpa using this
    obtain ⟨p, rfl, ok⟩ : ∃ p : Pln, d = p.d ∧ p.ok := by
      match i, hd with
      | 0, hd => exact ⟨p1, by simpa using hd.symm, ok1⟩
      | 1, hd => exact ⟨p2, by simpa using hd.symm, ok2⟩
      | 2, hd => exact ⟨p3, by simpa using hd.symm, ok3⟩
    obtain ⟨fs, nm, b, ep, e0, e1, b1, b2, e2⟩ := pln_sh ok
    rw [ep]
    simp
    refine wLoop_inv (fun j δ => ∃ (is : List Int) (n' : Nat) (o4 o5 o6 o7 : Option SV), (∀ x ∈ is, 0 < x ∧ Sz 180 x) ∧ is.length ≤ 51 + 4 * i + j ∧ n' ≤ n + 12 * i + 3 * j ∧
      δ = ⟨[some (.sh .deck), some (.sh (.lst [p1.d, p2.d, p3.d])), some (.ow (.lst (is.map D.int))), some (.sh (.tup fs)), o4, o5, o6, o7], n'⟩) ⟨is, n', o4, o5, o6, o7, his, by omega, by omega, rfl⟩ ?_ ?_
    · rintro j d δ hd ⟨is, n', o4, o5, o6, o7, his, hl, hn', rfl⟩ N hN
      obtain ⟨hj, rfl⟩ := rng_get hd
      simp
      refine ⟨by unfold CPow; decide, pick_ints (fun i => 1 ≤ i ∧ i ≤ 100000000000000000000) (by simp) (by simp) (by omega) (by simp) fun m hm => ?_⟩
      refine draw_le (by omega) ((Sz.pos (k := 68) (by omega) (by omega)).mono (by decide)) (by omega) fun x x0 x1 => ?_
      simp
      refine draw_le (by decide) (.n (by decide)) (by omega) fun g g0 g1 => ?_
      obtain ⟨g, rfl⟩ := Int.eq_ofNat_of_zero_le g0
      refine ⟨g, rfl, by omega, by omega, ?_⟩
      have bs : Sz 6 b := .pos (by omega) (by omega)
      refine wLoop_inv (fun l δ => ∃ (o6 : Option SV) (k : Int), 0 < k ∧ Sz (70 + 6 * l) k ∧
        δ = ⟨[some (.sh .deck), some (.sh (.lst [p1.d, p2.d, p3.d])), some (.ow (.lst (is.map D.int))), some (.sh (.tup fs)), some (.sh (.int (j : Nat))), some (.sh (.int k)), o6, o7], n' + 1 + 1 + 1⟩) ⟨o6, 1 + x, by omega, (Sz.pos (k := 70) (by omega) (by omega)), rfl⟩ ?_ ?_
      · rintro l d δ hd ⟨o6, k, k0, ks, rfl⟩ N hN
        obtain ⟨hl, rfl⟩ := rng_get hd
        simp at hl
        simp [e1, ks.cmul bs (by omega)]
        exact hN _ ⟨_, k * b, Int.mul_pos k0 (by omega), (ks.mul bs).mono (by omega), rfl⟩
      · rintro δ ⟨o6, k, k0, ks, rfl⟩
        rw [rng_len] at ks
        simp at ks
        have ks : Sz 130 k := ks.mono (by omega)
        have fin : ∀ z : Int, -11 ≤ z → z ≤ 40 → N ⟨[some (.sh .deck), some (.sh (.lst [p1.d, p2.d, p3.d])), some (.ow (.lst ((is ++ [if k + z > 1 then k + z else 1]).map D.int))), some (.sh (.tup fs)), some (.sh (.int (j : Nat))), some (.sh (.int k)), o6, some (.sh (.int z))], n' + 1 + 1 + 1⟩ := fun z z0 z1 => by
          refine hN _ ⟨is ++ [if k + z > 1 then k + z else 1], n' + 1 + 1 + 1, _, _, _, _, fun y hy => ?_, by simp; omega, by omega, rfl⟩
          rcases List.mem_append.mp hy with h | h
          · exact his y h
          · have h : y = if k + z > 1 then k + z else 1 := by simpa using h
            have hz : Sz 10 z := .of (by omega) (by omega)
            split at h
            · subst h; exact ⟨by omega, (ks.add hz).mono (by decide)⟩
            · subst h; exact ⟨by omega, .n (by decide)⟩
        have il : is.length < 16777216 := by omega
        simp [e0]
        refine ⟨fun h => ?_, fun h => ?_⟩
        · obtain ⟨a, e2, a0, a1⟩ := e2 h
          simp [e2]
          have := fin a a0 a1
          simp at this
          exact ⟨il, this⟩
        · have := fin 0 (by decide) (by decide)
          simp at this
          exact ⟨il, this⟩
    · rintro δ ⟨is, n', o4, o5, o6, o7, his, hl, hn', rfl⟩
      rw [rng_len] at hl hn'
      exact hN _ ⟨is, n', _, o4, o5, o6, o7, his, by omega, by omega, rfl⟩
  · rintro δ ⟨is, n', o3, o4, o5, o6, o7, his, hl, hn', rfl⟩
    simp at hn'
    simp
    exact q is n' his (by omega)
theorem dig {x y a b : Int} (hx : 0 ≤ x ∧ x < a) (hy : 0 ≤ y ∧ y < b) : 0 ≤ x * b + y ∧ x * b + y < a * b := by
  have h1 : 0 ≤ x * b := Int.mul_nonneg hx.1 (by omega)
  have h2 : (x + 1) * b ≤ a * b := Int.mul_le_mul_of_nonneg_right (by omega) (by omega)
  rw [Int.add_mul] at h2
  omega
def w_tail : WS :=
  (wSeq (wPar3 3 false 4 false 5 false (wCall C_l_made [] (wCons (wVar 0) (wCons (wOp fIx (wVar 1) (wC (.int 0))) wNil))) (wCall C_l_made [] (wCons (wVar 0) (wCons (wOp fIx (wVar 1) (wC (.int 1))) wNil))) (wCall C_l_made [] (wCons (wVar 0) (wCons (wOp fIx (wVar 1) (wC (.int 2))) wNil))))
    (wFreeA 1 (wSeq (wAsg 6 (wLc (wItems asS (wVar 1)) (gN 7) wYes (wCall C_l_many [] (wCons (wVar 7) wNil)) [7]))
    (wSeq (wPar3 8 false 9 false 10 false (wBop 0 C_Sorter_umulu (wVar 3) (wVar 4)) (wBop 0 C_Sorter_umulu (wBop 0 C_Sorter_umulu (wVar 3) (wVar 4)) (wVar 5)) (wBop 0 C_Sorter_umulu (wVar 3) (wBop 0 C_Sorter_umulu (wVar 4) (wVar 5))))
    (wSeq (wAsg 11 (wOp fMulA (wOp fMulA (wOp fIx (wVar 6) (wC (.int 0))) (wOp fIx (wVar 6) (wC (.int 1)))) (wOp fIx (wVar 6) (wC (.int 2)))))
    (wSeq (wAsg 12 (wLst (wCons (wUn (fFld tab_boxes) (wVar 3)) (wCons (wUn (fFld tab_boxes) (wVar 4)) (wCons (wUn (fFld tab_boxes) (wVar 5)) (wCons (wUn (fFld tab_boxes) (wVar 8)) (wCons (wUn (fFld tab_boxes) (wVar 9)) (wCons (wUn (fFld tab_boxes) (wVar 10)) wNil))))))))
    (wSeq (wIfS (wTest (wOp (fEq true) (wCB fRepr (wCons (wVar 12) wNil)) (wCB fRepr (wCons (wOp fAdd (wVar 6) (wLst (wCons (wOp fMulA (wOp fIx (wVar 6) (wC (.int 0))) (wOp fIx (wVar 6) (wC (.int 1)))) (wCons (wVar 11) (wCons (wVar 11) wNil))))) wNil)))) (wRet (wC (.bl false))) wNext)
    (wFreeA 1 (wSeq (wFor (wItems asS (wCall C_l_integers [] (wCons (wVar 0) (wCons (wVar 1) wNil)))) (gN 2) (wFreeA 1 (wSeq (wAsgG (gLst3 3 (gCons3 (gN 13) (gCons3 (gN 14) (gCons3 (gN 15) gNil3)))) (wLc (wItems asS (wVar 1)) (gN 7) wYes (wCall C_l_place [] (wCons (wVar 7) (wCons (wVar 2) wNil))) [7]))
    (wSeq (wAsg 16 (wOp fAdd (wOp fMulA (wVar 13) (wOp fIx (wVar 6) (wC (.int 1)))) (wVar 14)))
    (wSeq (wAsg 17 (wLst (wCons (wVar 13) (wCons (wVar 14) (wCons (wVar 15) (wCons (wVar 16) (wCons (wOp fAdd (wOp fMulA (wVar 16) (wOp fIx (wVar 6) (wC (.int 2)))) (wVar 15)) (wCons (wOp fAdd (wOp fMulA (wVar 16) (wOp fIx (wVar 6) (wC (.int 2)))) (wVar 15)) wNil))))))))
    (wSeq (wAsg 12 (wLst (wCons (wMeth 0 (C_Sorter_ucallu 3) 1 0 [0] [] (wVar 3) (wCons (wVar 2) wNil) wNil) (wCons (wMeth 0 (C_Sorter_ucallu 3) 1 0 [0] [] (wVar 4) (wCons (wVar 2) wNil) wNil) (wCons (wMeth 0 (C_Sorter_ucallu 3) 1 0 [0] [] (wVar 5) (wCons (wVar 2) wNil) wNil) (wCons (wMeth 0 (C_Sorter_ucallu 3) 1 0 [0] [] (wVar 8) (wCons (wVar 2) wNil) wNil) (wCons (wMeth 0 (C_Sorter_ucallu 3) 1 0 [0] [] (wVar 9) (wCons (wVar 2) wNil) wNil) (wCons (wMeth 0 (C_Sorter_ucallu 3) 1 0 [0] [] (wVar 10) (wCons (wVar 2) wNil) wNil) wNil))))))))
    (wSeq (wIfS (wOr (wTest (wOp (fEq true) (wCB fRepr (wCons (wVar 12) wNil)) (wCB fRepr (wCons (wVar 17) wNil)))) (wNot (wTest (wChain fLe fLt (wC (.int 0)) (wOp fIx (wVar 17) (wC (.int 4))) (wVar 11))))) (wRet (wC (.bl false))) wNext)
    (wIfS (wTest (wOp (fEq true) (wCB fRepr (wCons (wLst (wCons (wMeth 0 (C_Sorter_ucallu 3) 0 1 [0] [] (wVar 3) wNil (wCons (wVar 2) wNil)) (wCons (wMeth 0 (C_Sorter_ucallu 3) 0 1 [0] [] (wVar 9) wNil (wCons (wVar 2) wNil)) wNil))) wNil)) (wCB fRepr (wCons (wLst (wCons (wVar 13) (wCons (wOp fIx (wVar 17) (wC (.int 4))) wNil))) wNil)))) (wRet (wC (.bl false))) wNext))))))))
    (wRet (wOp (fEq false) (wCB fRepr (wCons (wLst (wCons (wUn (fFld tab_boxes) (wVar 3)) (wCons (wUn (fFld tab_boxes) (wVar 4)) (wCons (wUn (fFld tab_boxes) (wVar 5)) wNil)))) wNil)) (wCB fRepr (wCons (wVar 6) wNil)))))))))))))
theorem pf_tail {n n1 : Nat} {Q : D → Nat → Prop} (q : ∀ n' : Nat, n' ≤ n + 200 → Q (.bl true) n') (hn : n + 200 ≤ mostDraws) (hn1 : n1 ≤ n + 10) {p1 p2 p3 : Pln} (ok1 : p1.ok) (ok2 : p2.ok) (ok3 : p3.ok) :
    w_tail ⟨fun δ => Q .non δ.n, Q, fun _ => False, fun _ => False⟩ ⟨some (.sh .deck) :: some (.ow (.lst [p1.d, p2.d, p3.d])) :: List.replicate 16 none, n1⟩ := by
  have at1 : ∀ a b c : D, L2.atI [a, b, c] 1 = some b := fun a b c => L2.atI_nat (j := 1) rfl
  have at2 : ∀ a b c : D, L2.atI [a, b, c] 2 = some c := fun a b c => L2.atI_nat (j := 2) rfl
  simp [w_tail, List.replicate, atI_zero, at1, at2]
  refine ⟨p1, rfl, by omega, fun n2 h2 => ⟨p2, rfl, by omega, fun n3 h3 => ⟨p3, rfl, by omega, fun n4 h4 => ?_⟩⟩⟩
  refine wLc_inv (fun i acc δ => acc = (([p1, p2, p3].take i).map Pln.bx).map D.int ∧ δ = ⟨[some (.sh .deck), some (.sh (.lst [p1.d, p2.d, p3.d])), none, some (.sh p1.so), some (.sh p2.so), some (.sh p3.so), none, none, none, none, none, none, none, none, none, none, none, none], n4⟩) ⟨rfl, rfl⟩ ?_ ?_
  · rintro i d acc δ hd ⟨rfl, rfl⟩ N hN
    have hi3 : i < 3 := by
      have := (List.getElem?_eq_some_iff.mp hd).1
      simpa using this
    have hp : ∃ p : Pln, d = p.d ∧ [p1, p2, p3][i]? = some p := by
      match i, hd with
      | 0, hd => exact ⟨p1, by simpa using hd.symm, rfl⟩
      | 1, hd => exact ⟨p2, by simpa using hd.symm, rfl⟩
      | 2, hd => exact ⟨p3, by simpa using hd.symm, rfl⟩
    obtain ⟨p, rfl, hp⟩ := hp
    simp
    refine ⟨p, rfl, by omega, hN _ _ ⟨?_, rfl⟩⟩
    rw [List.take_succ, hp]; simp
  · rintro acc δ ⟨rfl, rfl⟩
    have b1 := bx_bd ok1
    have b2 := bx_bd ok2
    have b3 := bx_bd ok3
    have s1 : Sz 8 p1.bx := .pos (by omega) (by omega)
    have s2 : Sz 8 p2.bx := .pos (by omega) (by omega)
    have s3 : Sz 8 p3.bx := .pos (by omega) (by omega)
    simp [Pln.so, atI_zero, at1, at2]
    refine ⟨_, _, _, _, rfl, s1.mono (by decide), s2.mono (by decide), ?_⟩
    refine ⟨⟨_, _, rfl⟩, _, _, _, _, rfl, s1.mono (by decide), s2.mono (by decide), ⟨_, _, rfl⟩, ⟨_, rfl⟩, ?_⟩
    refine ⟨_, _, _, _, rfl, (s1.mul s2).mono (by decide), s3.mono (by decide), ⟨_, _, rfl⟩, ?_⟩
    refine ⟨_, _, _, _, rfl, s2.mono (by decide), s3.mono (by decide), ⟨_, _, rfl⟩, ⟨_, rfl⟩, ?_⟩
    refine ⟨_, _, _, _, rfl, s1.mono (by decide), (s2.mul s3).mono (by decide), ⟨_, _, rfl⟩, ?_⟩
    simp [s1.cmul s2 (by decide), (s1.mul s2).cmul s3 (by decide)]
    rw [← Int.mul_assoc]
    have w2 := s1.mul s2
    have w3 := w2.mul s3
    have sh6 : ∃ p, Sh (.lst [.int p1.bx, .int p2.bx, .int p3.bx, .int (p1.bx * p2.bx), .int (p1.bx * p2.bx * p3.bx), .int (p1.bx * p2.bx * p3.bx)]) p 1 10000 := by
      have a := ShAll.ints (ns := [p1.bx, p2.bx, p3.bx, p1.bx * p2.bx, p1.bx * p2.bx * p3.bx, p1.bx * p2.bx * p3.bx]) fun x hx => by
        simp at hx
        rcases hx with rfl | rfl | rfl | rfl | rfl
        · exact s1.mono (by decide)
        · exact s2.mono (by decide)
        · exact s3.mono (by decide)
        · exact w2.mono (by decide)
        · exact w3.mono (by decide)
      exact ⟨_, (Sh.lst a).mono (by decide) (by simp)⟩
    obtain ⟨t6, sh6⟩ := sh6
    refine sh6.repr (by decide) (by decide) (sh6.repr (by decide) (by decide) ?_)
    simp
    refine ⟨p1, p2, p3, rfl, ok1, ok2, ok3, by omega, fun is n5 his h5 => ?_⟩
    refine ⟨_, rfl, ?_⟩
    refine wLoop_inv (fun i δ => ∃ o2 o7 o12 o13 o14 o15 o16 o17 : Option D, δ = ⟨[some (.sh .deck), some (.sh (.lst [p1.d, p2.d, p3.d])), o2.map SV.sh, some (.sh (.ins 0 [.int p1.bx, p1.ru])), some (.sh (.ins 0 [.int p2.bx, p2.ru])), some (.sh (.ins 0 [.int p3.bx, p3.ru])),
      some (.sh (.lst [.int p1.bx, .int p2.bx, .int p3.bx])), o7.map SV.sh, some (.sh (.ins 0 [.int (p1.bx * p2.bx), .ins 1 [.ins 0 [.int p1.bx, p1.ru], .ins 0 [.int p2.bx, p2.ru]]])),
      some (.sh (.ins 0 [.int (p1.bx * p2.bx * p3.bx), .ins 1 [.ins 0 [.int (p1.bx * p2.bx), .ins 1 [.ins 0 [.int p1.bx, p1.ru], .ins 0 [.int p2.bx, p2.ru]]], .ins 0 [.int p3.bx, p3.ru]]])),
      some (.sh (.ins 0 [.int (p1.bx * p2.bx * p3.bx), .ins 1 [.ins 0 [.int p1.bx, p1.ru], .ins 0 [.int (p2.bx * p3.bx), .ins 1 [.ins 0 [.int p2.bx, p2.ru], .ins 0 [.int p3.bx, p3.ru]]]]])),
      some (.sh (.int (p1.bx * p2.bx * p3.bx))), o12.map SV.sh, o13.map SV.sh, o14.map SV.sh, o15.map SV.sh, o16.map SV.sh, o17.map SV.sh], n5⟩) ⟨none, none, some _, none, none, none, none, none, rfl⟩ ?_ ?_
    · rintro i d δ hd ⟨o2, o7, o12, o13, o14, o15, o16, o17, rfl⟩ N hN
      obtain ⟨k, rfl, hk⟩ : ∃ k : Int, d = .int k ∧ k ∈ is := by
        rw [List.getElem?_map] at hd
        cases e : is[i]? with
        | none => rw [e] at hd; cases hd
        | some k => rw [e] at hd; exact ⟨k, by simpa using hd.symm, List.mem_of_getElem? e⟩
      obtain ⟨k0, ks⟩ := his k hk
      obtain ⟨x, hx⟩ := Plc.ex ok1 k0
      obtain ⟨y, hy⟩ := Plc.ex ok2 k0
      obtain ⟨z, hz⟩ := Plc.ex ok3 k0
      have bx := hx.bd ok1 k0
      have by' := hy.bd ok2 k0
      have bz := hz.bd ok3 k0
      have sx : Sz 8 x := .pos (by omega) (by omega)
      have sy : Sz 8 y := .pos (by omega) (by omega)
      have sz : Sz 8 z := .pos (by omega) (by omega)
      simp
      refine wLc_inv (fun i acc δ => acc = ([x, y, z].take i).map D.int ∧ ∃ o7 : Option D, δ = ⟨[some (.sh .deck), some (.sh (.lst [p1.d, p2.d, p3.d])), some (.sh (.int k)), some (.sh (.ins 0 [.int p1.bx, p1.ru])), some (.sh (.ins 0 [.int p2.bx, p2.ru])), some (.sh (.ins 0 [.int p3.bx, p3.ru])),
        some (.sh (.lst [.int p1.bx, .int p2.bx, .int p3.bx])), o7.map SV.sh, some (.sh (.ins 0 [.int (p1.bx * p2.bx), .ins 1 [.ins 0 [.int p1.bx, p1.ru], .ins 0 [.int p2.bx, p2.ru]]])),
        some (.sh (.ins 0 [.int (p1.bx * p2.bx * p3.bx), .ins 1 [.ins 0 [.int (p1.bx * p2.bx), .ins 1 [.ins 0 [.int p1.bx, p1.ru], .ins 0 [.int p2.bx, p2.ru]]], .ins 0 [.int p3.bx, p3.ru]]])),
        some (.sh (.ins 0 [.int (p1.bx * p2.bx * p3.bx), .ins 1 [.ins 0 [.int p1.bx, p1.ru], .ins 0 [.int (p2.bx * p3.bx), .ins 1 [.ins 0 [.int p2.bx, p2.ru], .ins 0 [.int p3.bx, p3.ru]]]]])),
        some (.sh (.int (p1.bx * p2.bx * p3.bx))), o12.map SV.sh, o13.map SV.sh, o14.map SV.sh, o15.map SV.sh, o16.map SV.sh, o17.map SV.sh], n5⟩) ?_ ?_ ?_
      · exact ⟨rfl, none, rfl⟩
      · rintro j d acc δ hd ⟨rfl, o7, rfl⟩ N hN
        have hj3 : j < 3 := by
          have := (List.getElem?_eq_some_iff.mp hd).1
          simpa using this
        have hp : ∃ (p : Pln) (v : Int), d = p.d ∧ [x, y, z][j]? = some v ∧ p.ok ∧ Plc p k v := by
          match j, hd with
          | 0, hd => exact ⟨p1, x, by simpa using hd.symm, rfl, ok1, hx⟩
          | 1, hd => exact ⟨p2, y, by simpa using hd.symm, rfl, ok2, hy⟩
          | 2, hd => exact ⟨p3, z, by simpa using hd.symm, rfl, ok3, hz⟩
        obtain ⟨p, v, rfl, hv, okp, hpv⟩ := hp
        simp
        refine ⟨p, k, v, rfl, okp, k0, ks.mono (by decide), hpv, by omega, hN _ _ ⟨?_, none, rfl⟩⟩
        rw [List.take_succ, hv]; simp
      · rintro acc δ ⟨rfl, o7', rfl⟩
        have c2 : Sc 2 (.ins 0 [.int (p1.bx * p2.bx), .ins 1 [.ins 0 [.int p1.bx, p1.ru], .ins 0 [.int p2.bx, p2.ru]]]) k (x * p2.bx + y) := .pair (.base ok1 hx) (.base ok2 hy) (sx.mono (by decide)) (s2.mono (by decide))
        have c2' : Sc 2 (.ins 0 [.int (p2.bx * p3.bx), .ins 1 [.ins 0 [.int p2.bx, p2.ru], .ins 0 [.int p3.bx, p3.ru]]]) k (y * p3.bx + z) := .pair (.base ok2 hy) (.base ok3 hz) (sy.mono (by decide)) (s3.mono (by decide))
        have sxy := (sx.mul s2).add sy
        have cL : Sc 3 (.ins 0 [.int (p1.bx * p2.bx * p3.bx), .ins 1 [.ins 0 [.int (p1.bx * p2.bx), .ins 1 [.ins 0 [.int p1.bx, p1.ru], .ins 0 [.int p2.bx, p2.ru]]], .ins 0 [.int p3.bx, p3.ru]]]) k ((x * p2.bx + y) * p3.bx + z) :=
          .pair c2 (.base ok3 hz) (sxy.mono (by decide)) (s3.mono (by decide))
        have cR : Sc 3 (.ins 0 [.int (p1.bx * p2.bx * p3.bx), .ins 1 [.ins 0 [.int p1.bx, p1.ru], .ins 0 [.int (p2.bx * p3.bx), .ins 1 [.ins 0 [.int p2.bx, p2.ru], .ins 0 [.int p3.bx, p3.ru]]]]]) k (x * (p2.bx * p3.bx) + (y * p3.bx + z)) :=
          .pair (.base ok1 hx) c2' (sx.mono (by decide)) ((s2.mul s3).mono (by decide))
        have eR : x * (p2.bx * p3.bx) + (y * p3.bx + z) = (x * p2.bx + y) * p3.bx + z := by rw [Int.add_mul, Int.mul_assoc, Int.add_assoc]
        rw [eR] at cR
        have d2 := dig bx by'
        have d3 := dig d2 bz
        have sL := (sxy.mul s3).add sz
        have c2k : Sc 3 (.ins 0 [.int (p1.bx * p2.bx), .ins 1 [.ins 0 [.int p1.bx, p1.ru], .ins 0 [.int p2.bx, p2.ru]]]) k (x * p2.bx + y) := .pair (.base ok1 hx) (.base ok2 hy) (sx.mono (by decide)) (s2.mono (by decide))
        have sh6 : ∃ p, Sh (.lst [.int x, .int y, .int z, .int (x * p2.bx + y), .int ((x * p2.bx + y) * p3.bx + z), .int ((x * p2.bx + y) * p3.bx + z)]) p 1 10000 := by
          have a := ShAll.ints (ns := [x, y, z, x * p2.bx + y, (x * p2.bx + y) * p3.bx + z, (x * p2.bx + y) * p3.bx + z]) fun w hw => by
            simp at hw
            rcases hw with rfl | rfl | rfl | rfl | rfl
            · exact sx.mono (by decide)
            · exact sy.mono (by decide)
            · exact sz.mono (by decide)
            · exact sxy.mono (by decide)
            · exact sL.mono (by decide)
          exact ⟨_, (Sh.lst a).mono (by decide) (by simp)⟩
        obtain ⟨u6, sh6⟩ := sh6
        have sh2 : ∃ p, Sh (.lst [.int x, .int ((x * p2.bx + y) * p3.bx + z)]) p 1 10000 := by
          have a := ShAll.ints (ns := [x, (x * p2.bx + y) * p3.bx + z]) fun w hw => by
            simp at hw
            rcases hw with rfl | rfl
            · exact sx.mono (by decide)
            · exact sL.mono (by decide)
          exact ⟨_, (Sh.lst a).mono (by decide) (by simp)⟩
        obtain ⟨u2, sh2⟩ := sh2
        simp [at1, at2, sx.cmul s2 (by decide), sxy.cmul s3 (by decide)]
        refine ⟨_, k, x, rfl, k0, .base ok1 hx, _, k, y, rfl, k0, .base ok2 hy, _, k, z, rfl, k0, .base ok3 hz, _, k, _, rfl, k0, c2k, _, k, _, rfl, k0, cL, _, k, _, rfl, k0, cR, ?_⟩
        refine sh6.repr (by decide) (by decide) (sh6.repr (by decide) (by decide) ?_)
        have at4 : L2.atI [D.int x, .int y, .int z, .int (x * p2.bx + y), .int ((x * p2.bx + y) * p3.bx + z), .int ((x * p2.bx + y) * p3.bx + z)] 4 = some (.int ((x * p2.bx + y) * p3.bx + z)) := L2.atI_nat (j := 4) rfl
        simp [at4, d3.1, d3.2]
        refine ⟨_, k, x, rfl, k0, .base ok1 hx, _, k, _, rfl, k0, cL, ?_⟩
        refine sh2.repr (by decide) (by decide) (sh2.repr (by decide) (by decide) ?_)
        simp
        exact hN _ ⟨some _, o7, some _, some _, some _, some _, some _, some _, rfl⟩
    · rintro δ ⟨o2, o7, o12, o13, o14, o15, o16, o17, rfl⟩
      have sh3 : ∃ p, Sh (.lst [.int p1.bx, .int p2.bx, .int p3.bx]) p 1 10000 := by
        have a := ShAll.ints (ns := [p1.bx, p2.bx, p3.bx]) fun x hx => by
          simp at hx
          rcases hx with rfl | rfl | rfl
          · exact s1.mono (by decide)
          · exact s2.mono (by decide)
          · exact s3.mono (by decide)
        exact ⟨_, (Sh.lst a).mono (by decide) (by simp)⟩
      obtain ⟨u3, sh3⟩ := sh3
      simp
      refine sh3.repr (by decide) (by decide) (sh3.repr (by decide) (by decide) ?_)
      simp
      exact q _ (by omega)
theorem len_l_right : ∀ ds n Q, C_l_right ds n Q → ds.length = 1 := fun ds n Q ⟨e, _⟩ => by rw [e]; rfl
theorem pf_l_right : ∀ ds n Q, C_l_right ds n Q → w_l_right ⟨fun δ => Q .non δ.n, Q, fun _ => False, fun _ => False⟩ ⟨start3 N_l_right ds, n⟩ := by
  rintro ds n Q ⟨rfl, hn, q⟩
  rw [show w_l_right = (wSeq (wAsgO 1 (wLc (wRng1 (wCons (wC (.int 3)) wNil)) (gN 2) wYes (wCall C_l_plan [] (wCons (wVar 0) wNil)) [2]))
    (wSeq (wIfS (wTest (wOp (fEq false) (wCall C_l_draw [] (wCons (wVar 0) (wCons (wC (.int 4)) wNil))) (wC (.int 0)))) (wSetIx 1 (wOp fIx (wVar 1) (wC (.int 0))) (wC (.int 1))) wNext) w_tail)) from rfl]
  simp
  refine wLc_inv (fun i acc δ => ∃ (ps : List Pln) (n' : Nat), ps.length = i ∧ (∀ p ∈ ps, p.ok) ∧ acc = ps.map Pln.d ∧ n' ≤ n + 3 * i ∧ δ = ⟨some (.sh .deck) :: List.replicate 17 none, n'⟩) ⟨[], n, rfl, by simp, rfl, by omega, rfl⟩ ?_ ?_
  · rintro i d acc δ hd ⟨ps, n', hl, hok, rfl, hn', rfl⟩ N hN
    obtain ⟨hi, rfl⟩ := rng_get hd
    simp [List.replicate]
    refine ⟨rfl, by omega, fun p n2 okp h2 => ?_⟩
    refine ⟨by omega, hN _ _ ⟨ps ++ [p], n2, by simp [hl], fun y hy => ?_, by simp, by omega, by simp [List.replicate]⟩⟩
    rcases List.mem_append.mp hy with h | h
    · exact hok y h
    · simp at h; subst h; exact okp
  · rintro acc δ ⟨ps, n1, hl, hok, rfl, hn1, rfl⟩
    rw [rng_len] at hl hn1
    obtain ⟨p1, p2, p3, rfl⟩ : ∃ a b c, ps = [a, b, c] := by
      match ps, hl with
      | [a, b, c], _ => exact ⟨a, b, c, rfl⟩
    have ok1 : p1.ok := hok _ (by simp)
    have ok2 : p2.ok := hok _ (by simp)
    have ok3 : p3.ok := hok _ (by simp)
    have ix1 : ixN 3 1 = some 1 := by decide
    simp [List.replicate, atI_zero, ix1]
    refine draw_le (by decide) (.n (by decide)) (by omega) fun z z0 z1 => ?_
    simp
    exact ⟨fun _ => pf_tail q hn (by omega) ok1 ok1 ok3, fun _ => pf_tail q hn (by omega) ok1 ok2 ok3⟩
theorem pf_law : w_law ⟨fun _ => False, fun d _ => d = .bl true, fun _ => False, fun _ => False⟩ ⟨none :: some (.sh .deck) :: List.replicate (N_law.length - 2) none, 0⟩ := by
  simp [w_law]
  refine wLoop_inv (fun i δ => ∃ (o : Option SV) (n' : Nat), n' ≤ i * 200 ∧ δ = ⟨[none, some (.sh .deck), o], n'⟩) ⟨none, 0, by omega, rfl⟩ ?_ ?_
  · rintro i d δ hd ⟨o, n', hn, rfl⟩ N hN
    obtain ⟨hi, rfl⟩ := rng_get hd
    simp
    refine ⟨rfl, by unfold mostDraws; omega, fun n2 h2 => ?_⟩
    simp
    exact hN _ ⟨_, n2, by omega, rfl⟩
  · rintro δ ⟨o, n', hn, rfl⟩
    simp
end Pg
namespace Pg
open PySem PySem.Spec PyProof.Rows L2 L3
def top (i : Nat) : Stmt := PySem.Challenge.pw_whateverboxes_k26_sorters.main.body.getD i (.Pass ⟨0, 0, 0, 0⟩)
abbrev s_last_digit : Stmt := top 1
theorem sc_last_digit : FnScope N_last_digit ["number", "base"] (defScope s_last_digit) := ⟨rfl, rfl, rfl, by decide +kernel, rfl, by decide +kernel, by decide +kernel⟩
abbrev s_Remainder_uinitu : Stmt := inClass (top 2) 0
theorem sc_Remainder_uinitu : FnScope N_Remainder_uinitu ["self", "modulus"] (defScope s_Remainder_uinitu) := ⟨rfl, rfl, rfl, by decide +kernel, rfl, by decide +kernel, by decide +kernel⟩
abbrev s_Remainder_ucallu : Stmt := inClass (top 2) 1
theorem sc_Remainder_ucallu : FnScope N_Remainder_ucallu ["self", "number"] (defScope s_Remainder_ucallu) := ⟨rfl, rfl, rfl, by decide +kernel, rfl, by decide +kernel, by decide +kernel⟩
abbrev s_LastDigit_uinitu : Stmt := inClass (top 3) 0
theorem sc_LastDigit_uinitu : FnScope N_LastDigit_uinitu ["self", "prime", "after"] (defScope s_LastDigit_uinitu) := ⟨rfl, rfl, rfl, by decide +kernel, rfl, by decide +kernel, by decide +kernel⟩
abbrev s_LastDigit_ucallu : Stmt := inClass (top 3) 1
theorem sc_LastDigit_ucallu : FnScope N_LastDigit_ucallu ["self", "number"] (defScope s_LastDigit_ucallu) := ⟨rfl, rfl, rfl, by decide +kernel, rfl, by decide +kernel, by decide +kernel⟩
abbrev s_Pairing_uinitu : Stmt := inClass (top 4) 0
theorem sc_Pairing_uinitu : FnScope N_Pairing_uinitu ["self", "first_sorter", "second_sorter"] (defScope s_Pairing_uinitu) := ⟨rfl, rfl, rfl, by decide +kernel, rfl, by decide +kernel, by decide +kernel⟩
abbrev s_Pairing_ucallu : Stmt := inClass (top 4) 1
theorem sc_Pairing_ucallu : FnScope N_Pairing_ucallu ["self", "number"] (defScope s_Pairing_ucallu) := ⟨rfl, rfl, rfl, by decide +kernel, rfl, by decide +kernel, by decide +kernel⟩
abbrev s_Sorter_uinitu : Stmt := inClass (top 5) 0
theorem sc_Sorter_uinitu : FnScope N_Sorter_uinitu ["self", "boxes", "rule"] (defScope s_Sorter_uinitu) := ⟨rfl, rfl, rfl, by decide +kernel, rfl, by decide +kernel, by decide +kernel⟩
abbrev s_Sorter_modulo : Stmt := inClass (top 5) 1
theorem sc_Sorter_modulo : FnScope N_Sorter_modulo ["cls", "modulus"] (defScope s_Sorter_modulo) := ⟨rfl, rfl, rfl, by decide +kernel, rfl, by decide +kernel, by decide +kernel⟩
abbrev s_Sorter_digits : Stmt := inClass (top 5) 2
theorem sc_Sorter_digits : FnScope N_Sorter_digits ["cls", "prime", "after"] (defScope s_Sorter_digits) := ⟨rfl, rfl, rfl, by decide +kernel, rfl, by decide +kernel, by decide +kernel⟩
abbrev s_Sorter_ucallu : Stmt := inClass (top 5) 3
theorem sc_Sorter_ucallu : FnScope N_Sorter_ucallu ["self", "number"] (defScope s_Sorter_ucallu) := ⟨rfl, rfl, rfl, by decide +kernel, rfl, by decide +kernel, by decide +kernel⟩
abbrev s_Sorter_umulu : Stmt := inClass (top 5) 4
theorem sc_Sorter_umulu : FnScope N_Sorter_umulu ["self", "other"] (defScope s_Sorter_umulu) := ⟨rfl, rfl, rfl, by decide +kernel, rfl, by decide +kernel, by decide +kernel⟩
abbrev s_l_deck : Stmt := top 7
theorem sc_l_deck : FnScope N_l_deck ["_law_script"] (defScope s_l_deck) := ⟨rfl, rfl, rfl, by decide +kernel, rfl, by decide +kernel, by decide +kernel⟩
abbrev s_l_draw : Stmt := top 8
theorem sc_l_draw : FnScope N_l_draw ["_law_deck_here", "_law_many_here"] (defScope s_l_draw) := ⟨rfl, rfl, rfl, by decide +kernel, rfl, by decide +kernel, by decide +kernel⟩
abbrev s_l_pick : Stmt := top 9
theorem sc_l_pick : FnScope N_l_pick ["_law_deck_here", "_law_some"] (defScope s_l_pick) := ⟨rfl, rfl, rfl, by decide +kernel, rfl, by decide +kernel, by decide +kernel⟩
abbrev s_l_last : Stmt := top 10
theorem sc_l_last : FnScope N_l_last ["_law_k", "_law_by"] (defScope s_l_last) := ⟨rfl, rfl, rfl, by decide +kernel, rfl, by decide +kernel, by decide +kernel⟩
abbrev s_l_plan : Stmt := top 11
theorem sc_l_plan : FnScope N_l_plan ["_law_deck_here"] (defScope s_l_plan) := ⟨rfl, rfl, rfl, by decide +kernel, rfl, by decide +kernel, by decide +kernel⟩
abbrev s_l_made : Stmt := top 12
theorem sc_l_made : FnScope N_l_made ["_law_deck_here", "_law_plan_here"] (defScope s_l_made) := ⟨rfl, rfl, rfl, by decide +kernel, rfl, by decide +kernel, by decide +kernel⟩
abbrev s_l_many : Stmt := top 13
theorem sc_l_many : FnScope N_l_many ["_law_plan_here"] (defScope s_l_many) := ⟨rfl, rfl, rfl, by decide +kernel, rfl, by decide +kernel, by decide +kernel⟩
abbrev s_l_place : Stmt := top 14
theorem sc_l_place : FnScope N_l_place ["_law_plan_here", "_law_k"] (defScope s_l_place) := ⟨rfl, rfl, rfl, by decide +kernel, rfl, by decide +kernel, by decide +kernel⟩
abbrev s_l_integers : Stmt := top 15
theorem sc_l_integers : FnScope N_l_integers ["_law_deck_here", "_law_plans"] (defScope s_l_integers) := ⟨rfl, rfl, rfl, by decide +kernel, rfl, by decide +kernel, by decide +kernel⟩
abbrev s_l_right : Stmt := top 16
theorem sc_l_right : FnScope N_l_right ["_law_deck_here"] (defScope s_l_right) := ⟨rfl, rfl, rfl, by decide +kernel, rfl, by decide +kernel, by decide +kernel⟩
abbrev s_law : Stmt := top 17
theorem sc_law : FnScope N_law ["_law_script"] (defScope s_law) := ⟨rfl, rfl, rfl, by decide +kernel, rfl, by decide +kernel, by decide +kernel⟩
structure Txt (K : PySem.W.Frag) (mg : Str → Option Value) where
  f_last_digit : Addr
  fd_last_digit : FuncData
  F_last_digit : Fun K "last_digit" "last_digit" s_last_digit f_last_digit fd_last_digit
  m_last_digit : mg "last_digit" = some (.ref f_last_digit)
  f_Remainder_uinitu : Addr
  fd_Remainder_uinitu : FuncData
  F_Remainder_uinitu : Fun K "__init__" "Remainder.__init__" s_Remainder_uinitu f_Remainder_uinitu fd_Remainder_uinitu
  f_Remainder_ucallu : Addr
  fd_Remainder_ucallu : FuncData
  F_Remainder_ucallu : Fun K "__call__" "Remainder.__call__" s_Remainder_ucallu f_Remainder_ucallu fd_Remainder_ucallu
  f_LastDigit_uinitu : Addr
  fd_LastDigit_uinitu : FuncData
  F_LastDigit_uinitu : Fun K "__init__" "LastDigit.__init__" s_LastDigit_uinitu f_LastDigit_uinitu fd_LastDigit_uinitu
  f_LastDigit_ucallu : Addr
  fd_LastDigit_ucallu : FuncData
  F_LastDigit_ucallu : Fun K "__call__" "LastDigit.__call__" s_LastDigit_ucallu f_LastDigit_ucallu fd_LastDigit_ucallu
  f_Pairing_uinitu : Addr
  fd_Pairing_uinitu : FuncData
  F_Pairing_uinitu : Fun K "__init__" "Pairing.__init__" s_Pairing_uinitu f_Pairing_uinitu fd_Pairing_uinitu
  f_Pairing_ucallu : Addr
  fd_Pairing_ucallu : FuncData
  F_Pairing_ucallu : Fun K "__call__" "Pairing.__call__" s_Pairing_ucallu f_Pairing_ucallu fd_Pairing_ucallu
  f_Sorter_uinitu : Addr
  fd_Sorter_uinitu : FuncData
  F_Sorter_uinitu : Fun K "__init__" "Sorter.__init__" s_Sorter_uinitu f_Sorter_uinitu fd_Sorter_uinitu
  f_Sorter_modulo : Addr
  fd_Sorter_modulo : FuncData
  F_Sorter_modulo : Fun K "modulo" "Sorter.modulo" s_Sorter_modulo f_Sorter_modulo fd_Sorter_modulo
  f_Sorter_digits : Addr
  fd_Sorter_digits : FuncData
  FD_Sorter_digits : FunD K "digits" "Sorter.digits" (defArgs s_Sorter_digits) (defBody s_Sorter_digits) (defScope s_Sorter_digits) [] [("after", .int 0)] f_Sorter_digits fd_Sorter_digits
  f_Sorter_ucallu : Addr
  fd_Sorter_ucallu : FuncData
  F_Sorter_ucallu : Fun K "__call__" "Sorter.__call__" s_Sorter_ucallu f_Sorter_ucallu fd_Sorter_ucallu
  f_Sorter_umulu : Addr
  fd_Sorter_umulu : FuncData
  F_Sorter_umulu : Fun K "__mul__" "Sorter.__mul__" s_Sorter_umulu f_Sorter_umulu fd_Sorter_umulu
  f_l_deck : Addr
  fd_l_deck : FuncData
  F_l_deck : Fun K "_law_deck" "_law_deck" s_l_deck f_l_deck fd_l_deck
  m_l_deck : mg "_law_deck" = some (.ref f_l_deck)
  f_l_draw : Addr
  fd_l_draw : FuncData
  F_l_draw : Fun K "_law_draw" "_law_draw" s_l_draw f_l_draw fd_l_draw
  m_l_draw : mg "_law_draw" = some (.ref f_l_draw)
  f_l_pick : Addr
  fd_l_pick : FuncData
  F_l_pick : Fun K "_law_pick" "_law_pick" s_l_pick f_l_pick fd_l_pick
  m_l_pick : mg "_law_pick" = some (.ref f_l_pick)
  f_l_last : Addr
  fd_l_last : FuncData
  F_l_last : Fun K "_law_last" "_law_last" s_l_last f_l_last fd_l_last
  m_l_last : mg "_law_last" = some (.ref f_l_last)
  f_l_plan : Addr
  fd_l_plan : FuncData
  F_l_plan : Fun K "_law_plan" "_law_plan" s_l_plan f_l_plan fd_l_plan
  m_l_plan : mg "_law_plan" = some (.ref f_l_plan)
  f_l_made : Addr
  fd_l_made : FuncData
  F_l_made : Fun K "_law_made" "_law_made" s_l_made f_l_made fd_l_made
  m_l_made : mg "_law_made" = some (.ref f_l_made)
  f_l_many : Addr
  fd_l_many : FuncData
  F_l_many : Fun K "_law_many" "_law_many" s_l_many f_l_many fd_l_many
  m_l_many : mg "_law_many" = some (.ref f_l_many)
  f_l_place : Addr
  fd_l_place : FuncData
  F_l_place : Fun K "_law_place" "_law_place" s_l_place f_l_place fd_l_place
  m_l_place : mg "_law_place" = some (.ref f_l_place)
  f_l_integers : Addr
  fd_l_integers : FuncData
  F_l_integers : Fun K "_law_integers" "_law_integers" s_l_integers f_l_integers fd_l_integers
  m_l_integers : mg "_law_integers" = some (.ref f_l_integers)
  f_l_right : Addr
  fd_l_right : FuncData
  F_l_right : Fun K "_law_right" "_law_right" s_l_right f_l_right fd_l_right
  m_l_right : mg "_law_right" = some (.ref f_l_right)
  f_law : Addr
  fd_law : FuncData
  F_law : Fun K "law" "law" s_law f_law fd_law
  m_law : mg "law" = some (.ref f_law)
  C_Sorter : Addr
  mC_Sorter : mg "Sorter" = some (.ref C_Sorter)
  cl_Sorter : Cls K C_Sorter
  mk_Sorter : Mk K C_Sorter f_Sorter_uinitu
  na_Sorter_boxes : NoAttr K C_Sorter "boxes"
  na_Sorter_rule : NoAttr K C_Sorter "rule"
  ci_Sorter : CallI K C_Sorter f_Sorter_ucallu
  rd_Sorter : ClX.CRead K C_Sorter (.type "type")
  pp_Sorter_digits : Addr
  cm_Sorter_digits : ClX.CMet K C_Sorter (.type "type") "digits" pp_Sorter_digits f_Sorter_digits
  pp_Sorter_modulo : Addr
  cm_Sorter_modulo : ClX.CMet K C_Sorter (.type "type") "modulo" pp_Sorter_modulo f_Sorter_modulo
  sf_Sorter : PySem.W.selfFirst K C_Sorter = true
  bo_Sorter_umulu : PySem.W.findIn K (.ref C_Sorter) (PySem.dunder Operator.Mult.info.2) = some (some (.ref f_Sorter_umulu))
  bf_Sorter_umulu : PySem.W.isFn K (.ref f_Sorter_umulu) = true
  C_Pairing : Addr
  mC_Pairing : mg "Pairing" = some (.ref C_Pairing)
  cl_Pairing : Cls K C_Pairing
  mk_Pairing : Mk K C_Pairing f_Pairing_uinitu
  na_Pairing_first_sorter : NoAttr K C_Pairing "first_sorter"
  na_Pairing_second_sorter : NoAttr K C_Pairing "second_sorter"
  ci_Pairing : CallI K C_Pairing f_Pairing_ucallu
  C_LastDigit : Addr
  mC_LastDigit : mg "LastDigit" = some (.ref C_LastDigit)
  cl_LastDigit : Cls K C_LastDigit
  mk_LastDigit : Mk K C_LastDigit f_LastDigit_uinitu
  na_LastDigit_prime : NoAttr K C_LastDigit "prime"
  na_LastDigit_after : NoAttr K C_LastDigit "after"
  ci_LastDigit : CallI K C_LastDigit f_LastDigit_ucallu
  C_Remainder : Addr
  mC_Remainder : mg "Remainder" = some (.ref C_Remainder)
  cl_Remainder : Cls K C_Remainder
  mk_Remainder : Mk K C_Remainder f_Remainder_uinitu
  na_Remainder_modulus : NoAttr K C_Remainder "modulus"
  ci_Remainder : CallI K C_Remainder f_Remainder_ucallu
  z_int : mg "int" = none
  z_len : mg "len" = none
  z_list : mg "list" = none
  z_max : mg "max" = none
  z_range : mg "range" = none
  z_repr : mg "repr" = none
abbrev Txt.cls {K : PySem.W.Frag} {mg : Str → Option Value} (T : Txt K mg) : Nat → Addr := fun t => [T.C_Sorter, T.C_Pairing, T.C_LastDigit, T.C_Remainder].getD t 0
abbrev fld : Nat → List Str := fun t => ([["boxes", "rule"], ["first_sorter", "second_sorter"], ["prime", "after"], ["modulus"]] : List (List Str)).getD t []
section
variable {P : Program} {w : World} {K : PySem.W.Frag} {mg : Str → Option Value} {base : Heap}
theorem bd_last_digit (T : Txt K mg) : Binds K T.fd_last_digit ["number", "base"] [] := T.F_last_digit.binds (ps := ["number", "base"]) fun _ _ _ _ _ _ us hl => match us, hl with | [_, _], _ => rfl
theorem bd_l_deck (T : Txt K mg) : Binds K T.fd_l_deck ["_law_script"] [] := T.F_l_deck.binds (ps := ["_law_script"]) fun _ _ _ _ _ _ us hl => match us, hl with | [_], _ => rfl
theorem bd_l_draw (T : Txt K mg) : Binds K T.fd_l_draw ["_law_deck_here", "_law_many_here"] [] := T.F_l_draw.binds (ps := ["_law_deck_here", "_law_many_here"]) fun _ _ _ _ _ _ us hl => match us, hl with | [_, _], _ => rfl
theorem bd_l_pick (T : Txt K mg) : Binds K T.fd_l_pick ["_law_deck_here", "_law_some"] [] := T.F_l_pick.binds (ps := ["_law_deck_here", "_law_some"]) fun _ _ _ _ _ _ us hl => match us, hl with | [_, _], _ => rfl
theorem bd_l_last (T : Txt K mg) : Binds K T.fd_l_last ["_law_k", "_law_by"] [] := T.F_l_last.binds (ps := ["_law_k", "_law_by"]) fun _ _ _ _ _ _ us hl => match us, hl with | [_, _], _ => rfl
theorem bd_l_plan (T : Txt K mg) : Binds K T.fd_l_plan ["_law_deck_here"] [] := T.F_l_plan.binds (ps := ["_law_deck_here"]) fun _ _ _ _ _ _ us hl => match us, hl with | [_], _ => rfl
theorem bd_l_made (T : Txt K mg) : Binds K T.fd_l_made ["_law_deck_here", "_law_plan_here"] [] := T.F_l_made.binds (ps := ["_law_deck_here", "_law_plan_here"]) fun _ _ _ _ _ _ us hl => match us, hl with | [_, _], _ => rfl
theorem bd_l_many (T : Txt K mg) : Binds K T.fd_l_many ["_law_plan_here"] [] := T.F_l_many.binds (ps := ["_law_plan_here"]) fun _ _ _ _ _ _ us hl => match us, hl with | [_], _ => rfl
theorem bd_l_place (T : Txt K mg) : Binds K T.fd_l_place ["_law_plan_here", "_law_k"] [] := T.F_l_place.binds (ps := ["_law_plan_here", "_law_k"]) fun _ _ _ _ _ _ us hl => match us, hl with | [_, _], _ => rfl
theorem bd_l_integers (T : Txt K mg) : Binds K T.fd_l_integers ["_law_deck_here", "_law_plans"] [] := T.F_l_integers.binds (ps := ["_law_deck_here", "_law_plans"]) fun _ _ _ _ _ _ us hl => match us, hl with | [_, _], _ => rfl
theorem bd_l_right (T : Txt K mg) : Binds K T.fd_l_right ["_law_deck_here"] [] := T.F_l_right.binds (ps := ["_law_deck_here"]) fun _ _ _ _ _ _ us hl => match us, hl with | [_], _ => rfl
theorem bd_law (T : Txt K mg) : Binds K T.fd_law ["_law_script"] [] := T.F_law.binds (ps := ["_law_script"]) fun _ _ _ _ _ _ us hl => match us, hl with | [_], _ => rfl
theorem kb_Sorter_umulu_0 (T : Txt K mg) : KB K T.fd_Sorter_umulu ["self", "other"] 2 [] [0, 1] [] := by
  obtain ⟨oc, od, kV, doc, pm, an, cdv, ct, osl, e, _, _⟩ := T.F_Sorter_umulu.ex
  rw [e]
  exact fun s us ws X l1 l2 => match us, ws, l1, l2 with | [_, _], [], _, _ => .of_eq rfl
theorem kb_Sorter_ucallu_0 (T : Txt K mg) : KB K T.fd_Sorter_ucallu ["self", "number"] 2 [] [0, 1] [] := by
  obtain ⟨oc, od, kV, doc, pm, an, cdv, ct, osl, e, _, _⟩ := T.F_Sorter_ucallu.ex
  rw [e]
  exact fun s us ws X l1 l2 => match us, ws, l1, l2 with | [_, _], [], _, _ => .of_eq rfl
theorem kb_Sorter_ucallu_1 (T : Txt K mg) : KB K T.fd_Sorter_ucallu ["self", "number"] 1 ["number"] [0, 1] [] := by
  obtain ⟨oc, od, kV, doc, pm, an, cdv, ct, osl, e, _, _⟩ := T.F_Sorter_ucallu.ex
  rw [e]
  exact fun s us ws X l1 l2 => match us, ws, l1, l2 with | [_], [_], _, _ => .of_eq rfl
theorem kb_Sorter_modulo_0 (T : Txt K mg) : KB K T.fd_Sorter_modulo ["cls", "modulus"] 2 [] [0, 1] [] := by
  obtain ⟨oc, od, kV, doc, pm, an, cdv, ct, osl, e, _, _⟩ := T.F_Sorter_modulo.ex
  rw [e]
  exact fun s us ws X l1 l2 => match us, ws, l1, l2 with | [_, _], [], _, _ => .of_eq rfl
theorem kb_Sorter_modulo_1 (T : Txt K mg) : KB K T.fd_Sorter_modulo ["cls", "modulus"] 1 ["modulus"] [0, 1] [] := by
  obtain ⟨oc, od, kV, doc, pm, an, cdv, ct, osl, e, _, _⟩ := T.F_Sorter_modulo.ex
  rw [e]
  exact fun s us ws X l1 l2 => match us, ws, l1, l2 with | [_], [_], _, _ => .of_eq rfl
theorem kb_Sorter_digits_0 (T : Txt K mg) : ∃ its, Vals [.int 0] its ∧ KB K T.fd_Sorter_digits ["cls", "prime", "after"] 2 [] [0, 1, 2] its :=
  L3.FunD.kbK T.FD_Sorter_digits 2 [] [0, 1, 2] [("after", .int 0)] (by simp) (by simp) fun D doc pm an cdv ct us mv ws l1 l2 l3 => match us, mv, ws, l1, l2, l3 with | [_, _], [_], [], _, _, _ => ⟨_, _, _, _, _, _, rfl, rfl, rfl⟩
theorem kb_Sorter_digits_1 (T : Txt K mg) : ∃ its, Vals [.int 0] its ∧ KB K T.fd_Sorter_digits ["cls", "prime", "after"] 1 ["prime"] [0, 1, 2] its :=
  L3.FunD.kbK T.FD_Sorter_digits 1 ["prime"] [0, 1, 2] [("after", .int 0)] (by simp) (by simp) fun D doc pm an cdv ct us mv ws l1 l2 l3 => match us, mv, ws, l1, l2, l3 with | [_], [_], [_], _, _, _ => ⟨_, _, _, _, _, _, rfl, rfl, rfl⟩
theorem kb_Sorter_digits_2 (T : Txt K mg) : KB K T.fd_Sorter_digits ["cls", "prime", "after"] 2 ["after"] [0, 1, 2] [] := by
  obtain ⟨oc, od, dV, kV, doc, pm, an, cdv, ct, osl, e, lk, hcd, hD, hK⟩ := T.FD_Sorter_digits.ex
  rw [e]
  rcases hD with ⟨_, rfl⟩ | ⟨e, _⟩
  · exact fun s us ws X l1 l2 => match us, ws, l1, l2 with | [_, _], [_], _, _ => .of_eq rfl
  · exact absurd rfl e
theorem kb_Sorter_digits_3 (T : Txt K mg) : KB K T.fd_Sorter_digits ["cls", "prime", "after"] 1 ["after", "prime"] [0, 2, 1] [] := by
  obtain ⟨oc, od, dV, kV, doc, pm, an, cdv, ct, osl, e, lk, hcd, hD, hK⟩ := T.FD_Sorter_digits.ex
  rw [e]
  rcases hD with ⟨_, rfl⟩ | ⟨e, _⟩
  · exact fun s us ws X l1 l2 => match us, ws, l1, l2 with | [_], [_, _], _, _ => .of_eq rfl
  · exact absurd rfl e
theorem kb_Sorter_uinitu_0 (T : Txt K mg) : KB K T.fd_Sorter_uinitu ["self", "boxes", "rule"] 3 [] [0, 1, 2] [] := by
  obtain ⟨oc, od, kV, doc, pm, an, cdv, ct, osl, e, _, _⟩ := T.F_Sorter_uinitu.ex
  rw [e]
  exact fun s us ws X l1 l2 => match us, ws, l1, l2 with | [_, _, _], [], _, _ => .of_eq rfl
theorem kb_Pairing_uinitu_0 (T : Txt K mg) : KB K T.fd_Pairing_uinitu ["self", "first_sorter", "second_sorter"] 3 [] [0, 1, 2] [] := by
  obtain ⟨oc, od, kV, doc, pm, an, cdv, ct, osl, e, _, _⟩ := T.F_Pairing_uinitu.ex
  rw [e]
  exact fun s us ws X l1 l2 => match us, ws, l1, l2 with | [_, _, _], [], _, _ => .of_eq rfl
theorem kb_Pairing_ucallu_0 (T : Txt K mg) : KB K T.fd_Pairing_ucallu ["self", "number"] 2 [] [0, 1] [] := by
  obtain ⟨oc, od, kV, doc, pm, an, cdv, ct, osl, e, _, _⟩ := T.F_Pairing_ucallu.ex
  rw [e]
  exact fun s us ws X l1 l2 => match us, ws, l1, l2 with | [_, _], [], _, _ => .of_eq rfl
theorem kb_LastDigit_ucallu_0 (T : Txt K mg) : KB K T.fd_LastDigit_ucallu ["self", "number"] 2 [] [0, 1] [] := by
  obtain ⟨oc, od, kV, doc, pm, an, cdv, ct, osl, e, _, _⟩ := T.F_LastDigit_ucallu.ex
  rw [e]
  exact fun s us ws X l1 l2 => match us, ws, l1, l2 with | [_, _], [], _, _ => .of_eq rfl
theorem kb_Remainder_ucallu_0 (T : Txt K mg) : KB K T.fd_Remainder_ucallu ["self", "number"] 2 [] [0, 1] [] := by
  obtain ⟨oc, od, kV, doc, pm, an, cdv, ct, osl, e, _, _⟩ := T.F_Remainder_ucallu.ex
  rw [e]
  exact fun s us ws X l1 l2 => match us, ws, l1, l2 with | [_, _], [], _, _ => .of_eq rfl
theorem kb_Remainder_uinitu_0 (T : Txt K mg) : KB K T.fd_Remainder_uinitu ["self", "modulus"] 2 [] [0, 1] [] := by
  obtain ⟨oc, od, kV, doc, pm, an, cdv, ct, osl, e, _, _⟩ := T.F_Remainder_uinitu.ex
  rw [e]
  exact fun s us ws X l1 l2 => match us, ws, l1, l2 with | [_, _], [], _, _ => .of_eq rfl
theorem kb_LastDigit_uinitu_0 (T : Txt K mg) : KB K T.fd_LastDigit_uinitu ["self", "prime", "after"] 3 [] [0, 1, 2] [] := by
  obtain ⟨oc, od, kV, doc, pm, an, cdv, ct, osl, e, _, _⟩ := T.F_LastDigit_uinitu.ex
  rw [e]
  exact fun s us ws X l1 l2 => match us, ws, l1, l2 with | [_, _, _], [], _, _ => .of_eq rfl
theorem fo_after (T : Txt K mg) {a c : Addr} : FldOk K (GA T.cls fld a c) "after" tab_after := (.cons (show (fld 2).findIdx? (· == ("after" : Str)) = some 1 by decide +kernel) (show (fld 2).length < 1000 by decide +kernel) T.cl_LastDigit T.na_LastDigit_after .nil)
theorem fo_boxes (T : Txt K mg) {a c : Addr} : FldOk K (GA T.cls fld a c) "boxes" tab_boxes := (.cons (show (fld 0).findIdx? (· == ("boxes" : Str)) = some 0 by decide +kernel) (show (fld 0).length < 1000 by decide +kernel) T.cl_Sorter T.na_Sorter_boxes .nil)
theorem fo_first_sorter (T : Txt K mg) {a c : Addr} : FldOk K (GA T.cls fld a c) "first_sorter" tab_first_sorter := (.cons (show (fld 1).findIdx? (· == ("first_sorter" : Str)) = some 0 by decide +kernel) (show (fld 1).length < 1000 by decide +kernel) T.cl_Pairing T.na_Pairing_first_sorter .nil)
theorem fo_modulus (T : Txt K mg) {a c : Addr} : FldOk K (GA T.cls fld a c) "modulus" tab_modulus := (.cons (show (fld 3).findIdx? (· == ("modulus" : Str)) = some 0 by decide +kernel) (show (fld 3).length < 1000 by decide +kernel) T.cl_Remainder T.na_Remainder_modulus .nil)
theorem fo_prime (T : Txt K mg) {a c : Addr} : FldOk K (GA T.cls fld a c) "prime" tab_prime := (.cons (show (fld 2).findIdx? (· == ("prime" : Str)) = some 0 by decide +kernel) (show (fld 2).length < 1000 by decide +kernel) T.cl_LastDigit T.na_LastDigit_prime .nil)
theorem fo_rule (T : Txt K mg) {a c : Addr} : FldOk K (GA T.cls fld a c) "rule" tab_rule := (.cons (show (fld 0).findIdx? (· == ("rule" : Str)) = some 1 by decide +kernel) (show (fld 0).length < 1000 by decide +kernel) T.cl_Sorter T.na_Sorter_rule .nil)
theorem fo_second_sorter (T : Txt K mg) {a c : Addr} : FldOk K (GA T.cls fld a c) "second_sorter" tab_second_sorter := (.cons (show (fld 1).findIdx? (· == ("second_sorter" : Str)) = some 1 by decide +kernel) (show (fld 1).length < 1000 by decide +kernel) T.cl_Pairing T.na_Pairing_second_sorter .nil)
theorem ok_l_deck (T : Txt K mg) : FnG P w K mg base CX0 1 T.f_l_deck T.fd_l_deck ["_law_script"] (spDeckA K) := by
  refine FnG.of (FunB.of T.F_l_deck) sc_l_deck (fun vs H Q E ⟨a, ns, e, _⟩ => by rw [e]; rfl) fun cdv A outer s H vs Q E hr hg h => ?_
  have D : PSs (cxOf CX0 P w K mg base N_l_deck "_law_deck" (defScope s_l_deck) T.f_l_deck cdv A outer s H E).nox (defBody s_l_deck) (tDeckA K 952613 107) :=
    pss_cons (ps_par (i := 1) (j := 2) rfl sc_l_deck.nd rfl rfl (by decide) rfl rfl (pa_cons (pe_callTy call_list_of rfl T.z_list (by decide +kernel) (pa_cons (pe_slice sl_list (pv 0) po_none (po_some pe_int)) pa_nil)) (pa_cons pe_int pa_nil)) (by rfl))
    (pss_cons (ps_for PassesOwn.never rfl (pi_list (pv 1)) (pg_name (i := 3) sc_l_deck.nd rfl (.inl rfl)) (pss_one (ps_set (i := 2) sc_l_deck.nd rfl (.inl rfl) (pe_op op_modN (pe_callTy call_int1 rfl T.z_int (by decide +kernel) (pa_cons (pe_op op_add (pe_op op_add (pe_op op_mul (pv 2) pe_int) (pe_op op_modN (pe_callTy call_int1 rfl T.z_int (by decide +kernel) (pa_cons (pv 3) pa_nil)) pe_int)) pe_int) pa_nil)) pe_int))))
    (pss_one (ps_ret (pe_disp (pps_cons pe_str (pe_revL (pv 1)) (pps_cons pe_str (pv 2) (pps_cons pe_str pe_int pps_nil))) (by rfl) (by rfl) (fun z => by cases z) (by decide)))))
  exact ⟨_, D.nox, rd_deckA rfl (by decide) h⟩
theorem ok_l_draw (T : Txt K mg) : FnG P w K mg base CX0 1 T.f_l_draw T.fd_l_draw ["_law_deck_here", "_law_many_here"] (lift K (GA T.cls fld) CdrawA) := by
  refine FnG.of (FunB.of T.F_l_draw) sc_l_draw (fun vs H Q E ⟨a, c, ads, ds, n, Qd, _, _, _, r, ⟨m, e, _⟩, _⟩ => by rw [r.length, e]; rfl) fun cdv A outer s H vs Q E hr hg h => ?_
  obtain ⟨t, D⟩ : ∃ t, ∀ a c, DSs (cxOf CX0 P w K mg base N_l_draw "_law_draw" (defScope s_l_draw) T.f_l_draw cdv A outer s H E).nox (GA T.cls fld a c) ((defBody s_l_draw).drop 3) t w_l_draw :=
    ⟨_, fun a c => (dss_cons (ds_set 4 sc_l_draw.nd (de_mod (de_callTy call_int1 calls_int rfl T.z_int (by decide +kernel) (da_cons (de_mulK K (de_addK K (de_addK K (de_mod (de_callTy call_int1 calls_int rfl T.z_int (by decide +kernel) (da_cons (de_var 3) da_nil)) de_int) (de_mulK K (de_mulK K de_int (de_var 2)) (de_var 2))) de_int) de_int) da_nil)) de_int))
    (dss_cons (ds_set 4 sc_l_draw.nd (de_mod (de_callTy call_int1 calls_int rfl T.z_int (by decide +kernel) (da_cons (de_addK K (de_addK K (de_mulK K (de_var 4) (de_var 4)) (de_mulK K de_int (de_var 2))) de_int) da_nil)) de_int))
    (dss_one (ds_ret (de_mod (de_callTy call_int1 calls_int rfl T.z_int (by decide +kernel) (da_cons (de_fdiv (de_mod (de_callTy call_int1 calls_int rfl T.z_int (by decide +kernel) (da_cons (de_mulK K (de_var 4) de_int) da_nil)) de_int) de_int) da_nil)) (de_var 1))))))⟩
  have D1 : PSs (cxOf CX0 P w K mg base N_l_draw "_law_draw" (defScope s_l_draw) T.f_l_draw cdv A outer s H E).nox (defBody s_l_draw) (tDrawA K t) :=
    pss_cons (ps_dput (hu_of hr) (pv 0) pe_str (pe_op op_add (pe_dget (hu_of hr) (pv 0) pe_str (fun _ _ => rfl)) pe_int) rfl)
    (pss_cons (ps_par (i := 2) (j := 3) rfl sc_l_draw.nd rfl rfl (by decide) rfl rfl (pa_cons (pe_dget (hu_of hr) (pv 0) pe_str (fun _ _ => rfl)) (pa_cons (pe_dget (hu_of hr) (pv 0) pe_str (fun _ _ => rfl)) pa_nil)) (by rfl))
    (pss_cons (ps_if (pt_cmpR (op_neD hr.units) (pe_dget (hu_of hr) (pv 0) pe_str (fun _ _ => rfl)) (pe_lst pa_nil) (nomark _))
      (pss_cons (ps_set (i := 3) sc_l_draw.nd rfl (.inl rfl) (pe_bm0 PySem.F.plainAttrs_list PySem.F.slot_list_pop PySem.F.type_list_pop mt_pop (pe_dget (hu_of hr) (pv 0) pe_str (fun _ _ => rfl))))
      (pss_cons (ps_if (pt_cmpR op_ge (pv 3) (pe_op op_pow pe_int pe_int) (nomark _))
        (pss_cons (ps_expr (pe_bm PySem.F.plainAttrs_list PySem.F.slot_list_append PySem.F.type_list_append mt_append (pe_dget (hu_of hr) (pv 0) pe_str (fun _ _ => rfl)) (pa_cons (pe_op op_fdivA (pv 3) (pv 1)) pa_nil)))
        (pss_one (ps_ret (pe_op op_modN (pe_callTy call_int1 rfl T.z_int (by decide +kernel) (pa_cons (pv 3) pa_nil)) (pv 1))))) pss_nil)
      (pss_one (ps_set (i := 3) sc_l_draw.nd rfl (.inl rfl) (pe_op op_add (pv 3) (pe_dget (hu_of hr) (pv 0) pe_str (fun _ _ => rfl)))))))
      pss_nil) (D 0 0).ps))
  exact ⟨_, D1.nox, rd_drawA (by decide) (fun p c => (D p c).sim) pf_l_draw h⟩
theorem ok_last_digit (T : Txt K mg) : FnG P w K mg base CX0 1 T.f_last_digit T.fd_last_digit ["number", "base"] (lift K (GA T.cls fld) C_last_digit) :=
  FnG.data (FunB.of T.F_last_digit) sc_last_digit len_last_digit (fun cdv A outer s H E a c hr hg => ⟨_, (dss_cons (ds_set 2 sc_last_digit.nd (de_var 0))
    (dss_cons (ds_while PassesOwn.never (dt_cmp (op_eqK K hr.units) ops_eq (de_mod (de_var 2) (de_var 1)) de_int) (dss_one (ds_set 2 sc_last_digit.nd (de_fdiv (de_var 2) (de_var 1)))))
    (dss_one (ds_ret (de_mod (de_var 2) (de_var 1))))))⟩) pf_last_digit
theorem ok_Remainder_uinitu (T : Txt K mg) : FnG P w K mg base CX0 1 T.f_Remainder_uinitu T.fd_Remainder_uinitu ["self", "modulus"] (liftI K (GA T.cls fld) 3 C_Remainder_uinitu) :=
  FnG.init 3 (FunB.of T.F_Remainder_uinitu) sc_Remainder_uinitu len_Remainder_uinitu (fun cdv A outer s H E a c hr hg => ⟨_, (dss_one (ds_fld 0 K (fo_modulus T) (pv 0) (de_var 1)))⟩) pf_Remainder_uinitu
theorem ok_Remainder_ucallu (T : Txt K mg) : FnG P w K mg base CX0 1 T.f_Remainder_ucallu T.fd_Remainder_ucallu ["self", "number"] (lift K (GA T.cls fld) C_Remainder_ucallu) :=
  FnG.data (FunB.of T.F_Remainder_ucallu) sc_Remainder_ucallu len_Remainder_ucallu (fun cdv A outer s H E a c hr hg => ⟨_, (dss_one (ds_ret (de_mod (de_var 1) (de_fld K (fo_modulus T) (de_var 0)))))⟩) pf_Remainder_ucallu
theorem ok_LastDigit_uinitu (T : Txt K mg) : FnG P w K mg base CX0 1 T.f_LastDigit_uinitu T.fd_LastDigit_uinitu ["self", "prime", "after"] (liftI K (GA T.cls fld) 2 C_LastDigit_uinitu) :=
  FnG.init 2 (FunB.of T.F_LastDigit_uinitu) sc_LastDigit_uinitu len_LastDigit_uinitu (fun cdv A outer s H E a c hr hg => ⟨_, (dss_cons (ds_fld 0 K (fo_prime T) (pv 0) (de_var 1))
    (dss_one (ds_fld 0 K (fo_after T) (pv 0) (de_var 2))))⟩) pf_LastDigit_uinitu
theorem ok_LastDigit_ucallu (T : Txt K mg) : FnG P w K mg base CX0 2 T.f_LastDigit_ucallu T.fd_LastDigit_ucallu ["self", "number"] (lift K (GA T.cls fld) C_LastDigit_ucallu) :=
  FnG.data (FunB.of T.F_LastDigit_ucallu) sc_LastDigit_ucallu len_LastDigit_ucallu (fun cdv A outer s H E a c hr hg => ⟨_, (dss_cons (ds_if (dt_cmp op_le ops_IB (de_var 1) (de_fld K (fo_after T) (de_var 0))) (dss_one (ds_ret (de_sub (de_var 1) de_int))) dss_nil)
    (dss_one (ds_ret (de_sub (de_addK K (de_callB (call_max2 rfl) calls_max2 rfl T.z_max (by decide +kernel) (da_cons (de_fld K (fo_after T) (de_var 0)) (da_cons de_int da_nil))) (de_callX K (ok_last_digit T) (hr.mono (by decide)) hg T.m_last_digit T.F_last_digit.kp (bd_last_digit T) .nil dfl_nil (da_cons (de_sub (de_var 1) (de_fld K (fo_after T) (de_var 0))) (da_cons (de_fld K (fo_prime T) (de_var 0)) da_nil)))) de_int))))⟩) pf_LastDigit_ucallu
theorem ok_Pairing_uinitu (T : Txt K mg) : FnG P w K mg base CX0 1 T.f_Pairing_uinitu T.fd_Pairing_uinitu ["self", "first_sorter", "second_sorter"] (liftI K (GA T.cls fld) 1 C_Pairing_uinitu) :=
  FnG.init 1 (FunB.of T.F_Pairing_uinitu) sc_Pairing_uinitu len_Pairing_uinitu (fun cdv A outer s H E a c hr hg => ⟨_, (dss_cons (ds_fld 0 K (fo_first_sorter T) (pv 0) (de_var 1))
    (dss_one (ds_fld 0 K (fo_second_sorter T) (pv 0) (de_var 2))))⟩) pf_Pairing_uinitu
theorem st_Sorter_ucallu (T : Txt K mg) {L : Nat} (hL : 3 ≤ L) {CM : Con} (FM : FnG P w K mg base CX0 L T.f_Pairing_ucallu T.fd_Pairing_ucallu ["self", "number"] (lift K (GA T.cls fld) CM)) (C : Con) (len : ∀ ds n Q, C ds n Q → ds.length = 2)
    (pf : ∀ ds n Q, C ds n Q → w_Sorter_ucallu CM ⟨fun δ => Q .non δ.n, Q, fun _ => False, fun _ => False⟩ ⟨start3 N_Sorter_ucallu ds, n⟩) : FnG P w K mg base CX0 (L + 1) T.f_Sorter_ucallu T.fd_Sorter_ucallu ["self", "number"] (lift K (GA T.cls fld) C) :=
  FnG.data (FunB.of T.F_Sorter_ucallu) sc_Sorter_ucallu len (fun cdv A outer s H E a c hr hg => ⟨_, (dss_one (ds_ret (de_finst1 (fo_rule T) (tab1_cons (t := 3) T.ci_Remainder (ok_Remainder_ucallu T) (hr.mono (by omega)) (kb_Remainder_ucallu_0 T) (tab1_cons (t := 2) T.ci_LastDigit (ok_LastDigit_ucallu T) (hr.mono (by omega)) (kb_LastDigit_ucallu_0 T) (tab1_cons (t := 1) T.ci_Pairing FM (hr.mono (by omega)) (kb_Pairing_ucallu_0 T) tab1_nil))) hg (de_var 0) (de_var 1))))⟩) pf
theorem st_Pairing_ucallu (T : Txt K mg) {L : Nat} (hL : 3 ≤ L) {CM : Con} (FM : FnG P w K mg base CX0 L T.f_Sorter_ucallu T.fd_Sorter_ucallu ["self", "number"] (lift K (GA T.cls fld) CM)) (C : Con) (len : ∀ ds n Q, C ds n Q → ds.length = 2)
    (pf : ∀ ds n Q, C ds n Q → w_Pairing_ucallu CM ⟨fun δ => Q .non δ.n, Q, fun _ => False, fun _ => False⟩ ⟨start3 N_Pairing_ucallu ds, n⟩) : FnG P w K mg base CX0 (L + 1) T.f_Pairing_ucallu T.fd_Pairing_ucallu ["self", "number"] (lift K (GA T.cls fld) C) :=
  FnG.data (FunB.of T.F_Pairing_ucallu) sc_Pairing_ucallu len (fun cdv A outer s H E a c hr hg => ⟨_, (dss_one (ds_ret (de_addK K (de_mulK K (de_finst1 (fo_first_sorter T) (tab1_cons (t := 0) T.ci_Sorter FM (hr.mono (by omega)) (kb_Sorter_ucallu_0 T) tab1_nil) hg (de_var 0) (de_var 1)) (de_fld K (fo_boxes T) (de_fld K (fo_second_sorter T) (de_var 0)))) (de_finst1 (fo_second_sorter T) (tab1_cons (t := 0) T.ci_Sorter FM (hr.mono (by omega)) (kb_Sorter_ucallu_0 T) tab1_nil) hg (de_var 0) (de_var 1)))))⟩) pf
theorem ok_mut (T : Txt K mg) : ∀ k : Nat, FnG P w K mg base CX0 (3 + 2 * k) T.f_Pairing_ucallu T.fd_Pairing_ucallu ["self", "number"] (lift K (GA T.cls fld) (C_Pairing_ucallu k)) ∧ FnG P w K mg base CX0 (3 + 2 * k + 1) T.f_Sorter_ucallu T.fd_Sorter_ucallu ["self", "number"] (lift K (GA T.cls fld) (C_Sorter_ucallu k))
  | 0 => ⟨FnG.never, st_Sorter_ucallu T (by omega) FnG.never (C_Sorter_ucallu 0) (len_Sorter_ucallu 0) (pf_Sorter_ucallu 0)⟩
  | k + 1 =>
    have p := st_Pairing_ucallu T (by omega) (ok_mut T k).2 (C_Pairing_ucallu (k + 1)) (len_Pairing_ucallu (k + 1)) (pf_Pairing_ucallu (k + 1))
    ⟨p, st_Sorter_ucallu T (by omega) p (C_Sorter_ucallu (k + 1)) (len_Sorter_ucallu (k + 1)) (pf_Sorter_ucallu (k + 1))⟩
theorem ok_Sorter_ucallu (T : Txt K mg) (k : Nat) : FnG P w K mg base CX0 (3 + 2 * k + 1) T.f_Sorter_ucallu T.fd_Sorter_ucallu ["self", "number"] (lift K (GA T.cls fld) (C_Sorter_ucallu k)) := (ok_mut T k).2
theorem ok_Pairing_ucallu (T : Txt K mg) (k : Nat) : FnG P w K mg base CX0 (3 + 2 * k) T.f_Pairing_ucallu T.fd_Pairing_ucallu ["self", "number"] (lift K (GA T.cls fld) (C_Pairing_ucallu k)) := (ok_mut T k).1
theorem ok_Sorter_uinitu (T : Txt K mg) : FnG P w K mg base CX0 1 T.f_Sorter_uinitu T.fd_Sorter_uinitu ["self", "boxes", "rule"] (liftI K (GA T.cls fld) 0 C_Sorter_uinitu) :=
  FnG.init 0 (FunB.of T.F_Sorter_uinitu) sc_Sorter_uinitu len_Sorter_uinitu (fun cdv A outer s H E a c hr hg => ⟨_, (dss_cons (ds_fld 0 K (fo_boxes T) (pv 0) (de_var 1))
    (dss_one (ds_fld 0 K (fo_rule T) (pv 0) (de_var 2))))⟩) pf_Sorter_uinitu
theorem ok_Sorter_modulo (T : Txt K mg) : FnG P w K mg base CX0 3 T.f_Sorter_modulo T.fd_Sorter_modulo ["cls", "modulus"] (lift K (GA T.cls fld) C_Sorter_modulo) :=
  FnG.data (FunB.of T.F_Sorter_modulo) sc_Sorter_modulo len_Sorter_modulo (fun cdv A outer s H E a c hr hg => ⟨_, (dss_one (ds_ret (de_makeE K 0 T.mk_Sorter (ok_Sorter_uinitu T) (hr.mono (by decide)) hg (kb_Sorter_uinitu_0 T) .nil dfl_nil (de_var 0) (da_cons (de_var 1) (da_cons (de_make K 3 T.mk_Remainder (ok_Remainder_uinitu T) (hr.mono (by decide)) hg T.mC_Remainder (kb_Remainder_uinitu_0 T) .nil dfl_nil (da_cons (de_var 1) da_nil) dk_nil) da_nil)) dk_nil)))⟩) pf_Sorter_modulo
theorem ok_Sorter_digits (T : Txt K mg) : FnG P w K mg base CX0 3 T.f_Sorter_digits T.fd_Sorter_digits ["cls", "prime", "after"] (lift K (GA T.cls fld) C_Sorter_digits) :=
  FnG.data (FunB.ofD T.FD_Sorter_digits) sc_Sorter_digits len_Sorter_digits (fun cdv A outer s H E a c hr hg => ⟨_, (dss_one (ds_ret (de_makeE K 0 T.mk_Sorter (ok_Sorter_uinitu T) (hr.mono (by decide)) hg (kb_Sorter_uinitu_0 T) .nil dfl_nil (de_var 0) (da_cons (de_sub (de_addK K (de_callB (call_max2 rfl) calls_max2 rfl T.z_max (by decide +kernel) (da_cons (de_var 2) (da_cons de_int da_nil))) (de_var 1)) de_int) (da_cons (de_make K 2 T.mk_LastDigit (ok_LastDigit_uinitu T) (hr.mono (by decide)) hg T.mC_LastDigit (kb_LastDigit_uinitu_0 T) .nil dfl_nil (da_cons (de_var 1) (da_cons (de_var 2) da_nil)) dk_nil) da_nil)) dk_nil)))⟩) pf_Sorter_digits
theorem ok_Sorter_umulu (T : Txt K mg) : FnG P w K mg base CX0 3 T.f_Sorter_umulu T.fd_Sorter_umulu ["self", "other"] (lift K (GA T.cls fld) C_Sorter_umulu) :=
  FnG.data (FunB.of T.F_Sorter_umulu) sc_Sorter_umulu len_Sorter_umulu (fun cdv A outer s H E a c hr hg => ⟨_, (dss_one (ds_ret (de_make K 0 T.mk_Sorter (ok_Sorter_uinitu T) (hr.mono (by decide)) hg T.mC_Sorter (kb_Sorter_uinitu_0 T) .nil dfl_nil (da_cons (de_mulK K (de_fld K (fo_boxes T) (de_var 0)) (de_fld K (fo_boxes T) (de_var 1))) (da_cons (de_make K 1 T.mk_Pairing (ok_Pairing_uinitu T) (hr.mono (by decide)) hg T.mC_Pairing (kb_Pairing_uinitu_0 T) .nil dfl_nil (da_cons (de_var 0) (da_cons (de_var 1) da_nil)) dk_nil) da_nil)) dk_nil)))⟩) pf_Sorter_umulu
theorem ok_l_pick (T : Txt K mg) : FnG P w K mg base CX0 2 T.f_l_pick T.fd_l_pick ["_law_deck_here", "_law_some"] (lift K (GA T.cls fld) C_l_pick) :=
  FnG.data (FunB.of T.F_l_pick) sc_l_pick len_l_pick (fun cdv A outer s H E a c hr hg => ⟨_, (dss_one (ds_ret (de_ixK K (de_var 1) (de_callX K (ok_l_draw T) (hr.mono (by decide)) hg T.m_l_draw T.F_l_draw.kp (bd_l_draw T) .nil dfl_nil (da_cons (de_var 0) (da_cons (de_callB (call_lenK K) calls_len rfl T.z_len (by decide +kernel) (da_cons (de_var 1) da_nil)) da_nil))))))⟩) pf_l_pick
theorem ok_l_last (T : Txt K mg) : FnG P w K mg base CX0 1 T.f_l_last T.fd_l_last ["_law_k", "_law_by"] (lift K (GA T.cls fld) C_l_last) :=
  FnG.data (FunB.of T.F_l_last) sc_l_last len_l_last (fun cdv A outer s H E a c hr hg => ⟨_, (dss_cons (ds_setO 2 sc_l_last.nd (de_lst da_nil))
    (dss_cons (ds_while PassesOwn.never (dt_cmp op_gt ops_IB (de_var 0) de_int) (dss_cons (ds_append 2 (de_mod (de_callTy call_int1 calls_int rfl T.z_int (by decide +kernel) (da_cons (de_var 0) da_nil)) (de_var 1)) (pv 2))
    (dss_one (ds_set 0 sc_l_last.nd (de_fdiv (de_var 0) (de_var 1))))))
    (dss_freeA 2 (dss_one (ds_ret (de_ixK K (de_lc (own := [("_law_x", 3)]) rfl sc_l_last.nd (di_seqK K (de_var 2)) (blkOk_by (N := N_l_last) (sc := (defScope s_l_last)) (by decide +kernel)) (fun _ _ _ _ _ => (dg_name sc_l_last.nd)) (fun _ _ _ _ _ => (dts_one (dt_cmp (op_neK K hr.units) ops_ne (de_var 3) de_int))) (fun _ _ _ _ _ => (de_var 3)) (by decide)) de_int))))))⟩) pf_l_last
theorem ok_l_plan (T : Txt K mg) : FnG P w K mg base CX0 3 T.f_l_plan T.fd_l_plan ["_law_deck_here"] (lift K (GA T.cls fld) C_l_plan) :=
  FnG.data (FunB.of T.F_l_plan) sc_l_plan len_l_plan (fun cdv A outer s H E a c hr hg => ⟨_, (dss_cons (ds_if (dt_cmp (op_eqK K hr.units) ops_eq (de_callX K (ok_l_draw T) (hr.mono (by decide)) hg T.m_l_draw T.F_l_draw.kp (bd_l_draw T) .nil dfl_nil (da_cons (de_var 0) (da_cons de_int da_nil))) de_int) (dss_one (ds_ret (de_tup (da_cons de_str (da_cons (de_addK K de_int (de_callX K (ok_l_draw T) (hr.mono (by decide)) hg T.m_l_draw T.F_l_draw.kp (bd_l_draw T) .nil dfl_nil (da_cons (de_var 0) (da_cons de_int da_nil)))) da_nil))))) dss_nil)
    (dss_one (ds_ret (de_tup (da_cons de_str (da_cons (de_callX K (ok_l_pick T) (hr.mono (by decide)) hg T.m_l_pick T.F_l_pick.kp (bd_l_pick T) .nil dfl_nil (da_cons (de_var 0) (da_cons (de_lst (da_cons de_int (da_cons de_int (da_cons de_int (da_cons de_int (da_cons de_int (da_cons de_int (da_cons de_int (da_cons de_int da_nil))))))))) da_nil))) (da_cons (de_sub (de_callX K (ok_l_draw T) (hr.mono (by decide)) hg T.m_l_draw T.F_l_draw.kp (bd_l_draw T) .nil dfl_nil (da_cons (de_var 0) (da_cons de_int da_nil))) de_int) da_nil)))))))⟩) pf_l_plan
theorem ok_l_made (T : Txt K mg) : FnG P w K mg base CX0 4 T.f_l_made T.fd_l_made ["_law_deck_here", "_law_plan_here"] (lift K (GA T.cls fld) C_l_made) :=
  FnG.data (FunB.of T.F_l_made) sc_l_made len_l_made (fun cdv A outer s H E a c hr hg => ⟨_, (dss_cons (ds_if (dt_cmp (op_eqK K hr.units) ops_eq (de_ixK K (de_var 1) de_int) de_str) (dss_one (ds_ret (de_if (dt_cmp (op_eqK K hr.units) ops_eq (de_callX K (ok_l_draw T) (hr.mono (by decide)) hg T.m_l_draw T.F_l_draw.kp (bd_l_draw T) .nil dfl_nil (da_cons (de_var 0) (da_cons de_int da_nil))) de_int) (de_cmeth K 0 T.rd_Sorter T.cm_Sorter_modulo (ok_Sorter_modulo T) (hr.mono (by decide)) hg (kb_Sorter_modulo_0 T) .nil dfl_nil (de_cls 0 T.mC_Sorter) (da_cons (de_ixK K (de_var 1) de_int) da_nil) dk_nil) (de_cmeth K 0 T.rd_Sorter T.cm_Sorter_modulo (ok_Sorter_modulo T) (hr.mono (by decide)) hg (kb_Sorter_modulo_1 T) .nil dfl_nil (de_cls 0 T.mC_Sorter) da_nil (dk_cons (de_ixK K (de_var 1) de_int) dk_nil))))) dss_nil)
    (dss_cons (ds_if (DW.dt (dw_and (dt_cmp (op_eqK K hr.units) ops_eq (de_ixK K (de_var 1) de_int) de_int) (dw_and1 (dt_cmp (op_eqK K hr.units) ops_eq (de_callX K (ok_l_draw T) (hr.mono (by decide)) hg T.m_l_draw T.F_l_draw.kp (bd_l_draw T) .nil dfl_nil (da_cons (de_var 0) (da_cons de_int da_nil))) de_int)))) (dss_one (ds_ret (de_if (dt_cmp (op_eqK K hr.units) ops_eq (de_callX K (ok_l_draw T) (hr.mono (by decide)) hg T.m_l_draw T.F_l_draw.kp (bd_l_draw T) .nil dfl_nil (da_cons (de_var 0) (da_cons de_int da_nil))) de_int) (de_cmeth K 0 T.rd_Sorter T.cm_Sorter_digits (ok_Sorter_digits T) (hr.mono (by decide)) hg (kb_Sorter_digits_0 T).choose_spec.2 (kb_Sorter_digits_0 T).choose_spec.1 (Dfl.cons (d := .int 0) (fun _ => rfl) dfl_nil) (de_cls 0 T.mC_Sorter) (da_cons (de_ixK K (de_var 1) de_int) da_nil) dk_nil) (de_cmeth K 0 T.rd_Sorter T.cm_Sorter_digits (ok_Sorter_digits T) (hr.mono (by decide)) hg (kb_Sorter_digits_1 T).choose_spec.2 (kb_Sorter_digits_1 T).choose_spec.1 (Dfl.cons (d := .int 0) (fun _ => rfl) dfl_nil) (de_cls 0 T.mC_Sorter) da_nil (dk_cons (de_ixK K (de_var 1) de_int) dk_nil))))) dss_nil)
    (dss_cons (ds_if (dt_cmp (op_eqK K hr.units) ops_eq (de_callX K (ok_l_draw T) (hr.mono (by decide)) hg T.m_l_draw T.F_l_draw.kp (bd_l_draw T) .nil dfl_nil (da_cons (de_var 0) (da_cons de_int da_nil))) de_int) (dss_one (ds_ret (de_cmeth K 0 T.rd_Sorter T.cm_Sorter_digits (ok_Sorter_digits T) (hr.mono (by decide)) hg (kb_Sorter_digits_2 T) .nil dfl_nil (de_cls 0 T.mC_Sorter) (da_cons (de_ixK K (de_var 1) de_int) da_nil) (dk_cons (de_ixK K (de_var 1) de_int) dk_nil)))) dss_nil)
    (dss_one (ds_ret (de_cmeth K 0 T.rd_Sorter T.cm_Sorter_digits (ok_Sorter_digits T) (hr.mono (by decide)) hg (kb_Sorter_digits_3 T) .nil dfl_nil (de_cls 0 T.mC_Sorter) da_nil (dk_cons (de_ixK K (de_var 1) de_int) (dk_cons (de_ixK K (de_var 1) de_int) dk_nil))))))))⟩) pf_l_made
theorem ok_l_many (T : Txt K mg) : FnG P w K mg base CX0 1 T.f_l_many T.fd_l_many ["_law_plan_here"] (lift K (GA T.cls fld) C_l_many) :=
  FnG.data (FunB.of T.F_l_many) sc_l_many len_l_many (fun cdv A outer s H E a c hr hg => ⟨_, (dss_cons (ds_if (dt_cmp (op_eqK K hr.units) ops_eq (de_ixK K (de_var 0) de_int) de_str) (dss_one (ds_ret (de_ixK K (de_var 0) de_int))) dss_nil)
    (dss_one (ds_ret (de_sub (de_addK K (de_callB (call_max2 rfl) calls_max2 rfl T.z_max (by decide +kernel) (da_cons (de_ixK K (de_var 0) de_int) (da_cons de_int da_nil))) (de_ixK K (de_var 0) de_int)) de_int))))⟩) pf_l_many
theorem ok_l_place (T : Txt K mg) : FnG P w K mg base CX0 2 T.f_l_place T.fd_l_place ["_law_plan_here", "_law_k"] (lift K (GA T.cls fld) C_l_place) :=
  FnG.data (FunB.of T.F_l_place) sc_l_place len_l_place (fun cdv A outer s H E a c hr hg => ⟨_, (dss_cons (ds_if (dt_cmp (op_eqK K hr.units) ops_eq (de_ixK K (de_var 0) de_int) de_str) (dss_one (ds_ret (de_mod (de_callTy call_int1 calls_int rfl T.z_int (by decide +kernel) (da_cons (de_var 1) da_nil)) (de_ixK K (de_var 0) de_int)))) dss_nil)
    (dss_cons (ds_if (dt_cmp op_le ops_IB (de_var 1) (de_ixK K (de_var 0) de_int)) (dss_one (ds_ret (de_sub (de_var 1) de_int))) dss_nil)
    (dss_one (ds_ret (de_sub (de_addK K (de_callB (call_max2 rfl) calls_max2 rfl T.z_max (by decide +kernel) (da_cons (de_ixK K (de_var 0) de_int) (da_cons de_int da_nil))) (de_callX K (ok_l_last T) (hr.mono (by decide)) hg T.m_l_last T.F_l_last.kp (bd_l_last T) .nil dfl_nil (da_cons (de_sub (de_var 1) (de_ixK K (de_var 0) de_int)) (da_cons (de_ixK K (de_var 0) de_int) da_nil)))) de_int)))))⟩) pf_l_place
theorem ok_l_integers (T : Txt K mg) : FnG P w K mg base CX0 3 T.f_l_integers T.fd_l_integers ["_law_deck_here", "_law_plans"] (lift K (GA T.cls fld) C_l_integers) :=
  FnG.data (FunB.of T.F_l_integers) sc_l_integers len_l_integers (fun cdv A outer s H E a c hr hg => ⟨_, (dss_cons (ds_setO 2 sc_l_integers.nd (de_lrg2 de_int de_int T.z_list T.z_range))
    (dss_cons (ds_for PassesOwn.never rfl (di_seqK K (de_var 1)) (dg_name sc_l_integers.nd) (dss_one (ds_for PassesOwn.never rfl (di_range1 rfl T.z_range (da_cons de_int da_nil)) (dg_name sc_l_integers.nd) (dss_cons (ds_set 5 sc_l_integers.nd (de_addK K de_int (de_callX K (ok_l_draw T) (hr.mono (by decide)) hg T.m_l_draw T.F_l_draw.kp (bd_l_draw T) .nil dfl_nil (da_cons (de_var 0) (da_cons (de_callX K (ok_l_pick T) (hr.mono (by decide)) hg T.m_l_pick T.F_l_pick.kp (bd_l_pick T) .nil dfl_nil (da_cons (de_var 0) (da_cons (de_lst (da_cons de_int (da_cons de_int (da_cons (de_pow de_int de_int) da_nil)))) da_nil))) da_nil)))))
    (dss_cons (ds_for PassesOwn.never rfl (di_range1 rfl T.z_range (da_cons (de_callX K (ok_l_draw T) (hr.mono (by decide)) hg T.m_l_draw T.F_l_draw.kp (bd_l_draw T) .nil dfl_nil (da_cons (de_var 0) (da_cons de_int da_nil))) da_nil)) (dg_name sc_l_integers.nd) (dss_one (ds_set 5 sc_l_integers.nd (de_mulK K (de_var 5) (de_ixK K (de_var 3) de_int)))))
    (dss_cons (ds_set 7 sc_l_integers.nd (de_if (dt_cmp (op_eqK K hr.units) ops_eq (de_ixK K (de_var 3) de_int) de_str) (de_ixK K (de_var 3) de_int) de_int))
    (dss_one (ds_append 2 (de_callB (call_max2 rfl) calls_max2 rfl T.z_max (by decide +kernel) (da_cons de_int (da_cons (de_addK K (de_var 5) (de_var 7)) da_nil))) (pv 2)))))))))
    (dss_one (ds_ret (de_var 2)))))⟩) pf_l_integers
theorem ok_l_right (T : Txt K mg) : FnG P w K mg base CX0 12 T.f_l_right T.fd_l_right ["_law_deck_here"] (lift K (GA T.cls fld) C_l_right) :=
  FnG.data (FunB.of T.F_l_right) sc_l_right len_l_right (fun cdv A outer s H E a c hr hg => ⟨_, (dss_cons (ds_setLcO (i := 1) rfl sc_l_right.nd rfl rfl (sw_true rfl rfl rfl (by decide +kernel)) (own := [("_law_k", 2)]) (di_range1 rfl T.z_range (da_cons de_int da_nil)) (blkOk_by (N := N_l_right) (sc := (defScope s_l_right)) (by decide +kernel)) (fun _ _ _ _ _ => (dg_name sc_l_right.nd)) (fun _ _ _ _ _ => dts_nil) (fun _ _ _ _ _ => (de_callX K (ok_l_plan T) (hr.mono (by decide)) hg T.m_l_plan T.F_l_plan.kp (bd_l_plan T) .nil dfl_nil (da_cons (de_var 0) da_nil))) (by decide))
    (dss_cons (ds_if (dt_cmp (op_eqK K hr.units) ops_eq (de_callX K (ok_l_draw T) (hr.mono (by decide)) hg T.m_l_draw T.F_l_draw.kp (bd_l_draw T) .nil dfl_nil (da_cons (de_var 0) (da_cons de_int da_nil))) de_int) (dss_one (ds_setIx 1 (de_ixK K (de_var 1) de_int) (pv 1) de_int)) dss_nil)
    (dss_cons (ds_par3 3 false 4 false 5 false rfl sc_l_right.nd (de_callX K (ok_l_made T) (hr.mono (by decide)) hg T.m_l_made T.F_l_made.kp (bd_l_made T) .nil dfl_nil (da_cons (de_var 0) (da_cons (de_ixK K (de_var 1) de_int) da_nil))) (de_callX K (ok_l_made T) (hr.mono (by decide)) hg T.m_l_made T.F_l_made.kp (bd_l_made T) .nil dfl_nil (da_cons (de_var 0) (da_cons (de_ixK K (de_var 1) de_int) da_nil))) (de_callX K (ok_l_made T) (hr.mono (by decide)) hg T.m_l_made T.F_l_made.kp (bd_l_made T) .nil dfl_nil (da_cons (de_var 0) (da_cons (de_ixK K (de_var 1) de_int) da_nil))))
    (dss_freeA 1 (dss_cons (ds_setLc (i := 6) rfl sc_l_right.nd rfl rfl (sw_true rfl rfl rfl (by decide +kernel)) (own := [("_law_plan_here", 7)]) (di_seqK K (de_var 1)) (blkOk_by (N := N_l_right) (sc := (defScope s_l_right)) (by decide +kernel)) (fun _ _ _ _ _ => (dg_name sc_l_right.nd)) (fun _ _ _ _ _ => dts_nil) (fun _ _ _ _ _ => (de_callX K (ok_l_many T) (hr.mono (by decide)) hg T.m_l_many T.F_l_many.kp (bd_l_many T) .nil dfl_nil (da_cons (de_var 7) da_nil))) (by decide))
    (dss_cons (ds_par3 8 false 9 false 10 false rfl sc_l_right.nd (de_bop K 0 T.sf_Sorter T.bo_Sorter_umulu T.bf_Sorter_umulu (ok_Sorter_umulu T) (hr.mono (by decide)) hg (kb_Sorter_umulu_0 T) (de_var 3) (de_var 4)) (de_bop K 0 T.sf_Sorter T.bo_Sorter_umulu T.bf_Sorter_umulu (ok_Sorter_umulu T) (hr.mono (by decide)) hg (kb_Sorter_umulu_0 T) (de_bop K 0 T.sf_Sorter T.bo_Sorter_umulu T.bf_Sorter_umulu (ok_Sorter_umulu T) (hr.mono (by decide)) hg (kb_Sorter_umulu_0 T) (de_var 3) (de_var 4)) (de_var 5)) (de_bop K 0 T.sf_Sorter T.bo_Sorter_umulu T.bf_Sorter_umulu (ok_Sorter_umulu T) (hr.mono (by decide)) hg (kb_Sorter_umulu_0 T) (de_var 3) (de_bop K 0 T.sf_Sorter T.bo_Sorter_umulu T.bf_Sorter_umulu (ok_Sorter_umulu T) (hr.mono (by decide)) hg (kb_Sorter_umulu_0 T) (de_var 4) (de_var 5))))
    (dss_cons (ds_set 11 sc_l_right.nd (de_mulK K (de_mulK K (de_ixK K (de_var 6) de_int) (de_ixK K (de_var 6) de_int)) (de_ixK K (de_var 6) de_int)))
    (dss_cons (ds_set 12 sc_l_right.nd (de_lst (da_cons (de_fld K (fo_boxes T) (de_var 3)) (da_cons (de_fld K (fo_boxes T) (de_var 4)) (da_cons (de_fld K (fo_boxes T) (de_var 5)) (da_cons (de_fld K (fo_boxes T) (de_var 8)) (da_cons (de_fld K (fo_boxes T) (de_var 9)) (da_cons (de_fld K (fo_boxes T) (de_var 10)) da_nil))))))))
    (dss_cons (ds_if (dt_cmp (op_neK K hr.units) ops_ne (de_callB (call_reprK K hg hr.units) calls_repr rfl T.z_repr (by decide +kernel) (da_cons (de_var 12) da_nil)) (de_callB (call_reprK K hg hr.units) calls_repr rfl T.z_repr (by decide +kernel) (da_cons (de_addK K (de_var 6) (de_lst (da_cons (de_mulK K (de_ixK K (de_var 6) de_int) (de_ixK K (de_var 6) de_int)) (da_cons (de_var 11) (da_cons (de_var 11) da_nil))))) da_nil))) (dss_one (ds_ret de_bl)) dss_nil)
    (dss_freeA 1 (dss_cons (ds_for PassesOwn.never rfl (di_seqK K (de_callX K (ok_l_integers T) (hr.mono (by decide)) hg T.m_l_integers T.F_l_integers.kp (bd_l_integers T) .nil dfl_nil (da_cons (de_var 0) (da_cons (de_var 1) da_nil)))) (dg_name sc_l_right.nd) (dss_freeA 1 (dss_cons (ds_asg (de_lc (own := [("_law_plan_here", 7)]) rfl sc_l_right.nd (di_seqK K (de_var 1)) (blkOk_by (N := N_l_right) (sc := (defScope s_l_right)) (by decide +kernel)) (fun _ _ _ _ _ => (dg_name sc_l_right.nd)) (fun _ _ _ _ _ => dts_nil) (fun _ _ _ _ _ => (de_callX K (ok_l_place T) (hr.mono (by decide)) hg T.m_l_place T.F_l_place.kp (bd_l_place T) .nil dfl_nil (da_cons (de_var 7) (da_cons (de_var 2) da_nil)))) (by decide)) (dg_lstK K rfl (dgs_cons (dg_name sc_l_right.nd) (dgs_cons (dg_name sc_l_right.nd) (dgs_cons (dg_name sc_l_right.nd) dgs_nil)))))
    (dss_cons (ds_set 16 sc_l_right.nd (de_addK K (de_mulK K (de_var 13) (de_ixK K (de_var 6) de_int)) (de_var 14)))
    (dss_cons (ds_set 17 sc_l_right.nd (de_lst (da_cons (de_var 13) (da_cons (de_var 14) (da_cons (de_var 15) (da_cons (de_var 16) (da_cons (de_addK K (de_mulK K (de_var 16) (de_ixK K (de_var 6) de_int)) (de_var 15)) (da_cons (de_addK K (de_mulK K (de_var 16) (de_ixK K (de_var 6) de_int)) (de_var 15)) da_nil))))))))
    (dss_cons (ds_set 12 sc_l_right.nd (de_lst (da_cons (de_inst K 0 T.ci_Sorter (ok_Sorter_ucallu T 3) (hr.mono (by decide)) hg (kb_Sorter_ucallu_0 T) .nil dfl_nil (de_var 3) (da_cons (de_var 2) da_nil) dk_nil) (da_cons (de_inst K 0 T.ci_Sorter (ok_Sorter_ucallu T 3) (hr.mono (by decide)) hg (kb_Sorter_ucallu_0 T) .nil dfl_nil (de_var 4) (da_cons (de_var 2) da_nil) dk_nil) (da_cons (de_inst K 0 T.ci_Sorter (ok_Sorter_ucallu T 3) (hr.mono (by decide)) hg (kb_Sorter_ucallu_0 T) .nil dfl_nil (de_var 5) (da_cons (de_var 2) da_nil) dk_nil) (da_cons (de_inst K 0 T.ci_Sorter (ok_Sorter_ucallu T 3) (hr.mono (by decide)) hg (kb_Sorter_ucallu_0 T) .nil dfl_nil (de_var 8) (da_cons (de_var 2) da_nil) dk_nil) (da_cons (de_inst K 0 T.ci_Sorter (ok_Sorter_ucallu T 3) (hr.mono (by decide)) hg (kb_Sorter_ucallu_0 T) .nil dfl_nil (de_var 9) (da_cons (de_var 2) da_nil) dk_nil) (da_cons (de_inst K 0 T.ci_Sorter (ok_Sorter_ucallu T 3) (hr.mono (by decide)) hg (kb_Sorter_ucallu_0 T) .nil dfl_nil (de_var 10) (da_cons (de_var 2) da_nil) dk_nil) da_nil))))))))
    (dss_cons (ds_if (DW.dt (dw_or (dt_cmp (op_neK K hr.units) ops_ne (de_callB (call_reprK K hg hr.units) calls_repr rfl T.z_repr (by decide +kernel) (da_cons (de_var 12) da_nil)) (de_callB (call_reprK K hg hr.units) calls_repr rfl T.z_repr (by decide +kernel) (da_cons (de_var 17) da_nil))) (dw_or1 (dt_not (dt_chain op_le ops_IB op_lt ops_IB de_int (de_ixK K (de_var 17) de_int) (de_var 11)))))) (dss_one (ds_ret de_bl)) dss_nil)
    (dss_one (ds_if (dt_cmp (op_neK K hr.units) ops_ne (de_callB (call_reprK K hg hr.units) calls_repr rfl T.z_repr (by decide +kernel) (da_cons (de_lst (da_cons (de_inst K 0 T.ci_Sorter (ok_Sorter_ucallu T 3) (hr.mono (by decide)) hg (kb_Sorter_ucallu_1 T) .nil dfl_nil (de_var 3) da_nil (dk_cons (de_var 2) dk_nil)) (da_cons (de_inst K 0 T.ci_Sorter (ok_Sorter_ucallu T 3) (hr.mono (by decide)) hg (kb_Sorter_ucallu_1 T) .nil dfl_nil (de_var 9) da_nil (dk_cons (de_var 2) dk_nil)) da_nil))) da_nil)) (de_callB (call_reprK K hg hr.units) calls_repr rfl T.z_repr (by decide +kernel) (da_cons (de_lst (da_cons (de_var 13) (da_cons (de_ixK K (de_var 17) de_int) da_nil))) da_nil))) (dss_one (ds_ret de_bl)) dss_nil)))))))))
    (dss_one (ds_ret (de_cmp (op_eqK K hr.units) ops_eq (de_callB (call_reprK K hg hr.units) calls_repr rfl T.z_repr (by decide +kernel) (da_cons (de_lst (da_cons (de_fld K (fo_boxes T) (de_var 3)) (da_cons (de_fld K (fo_boxes T) (de_var 4)) (da_cons (de_fld K (fo_boxes T) (de_var 5)) da_nil)))) da_nil)) (de_callB (call_reprK K hg hr.units) calls_repr rfl T.z_repr (by decide +kernel) (da_cons (de_var 6) da_nil))))))))))))))))⟩) pf_l_right
theorem ok_law (T : Txt K mg) : FnG P w K mg base CX0 13 T.f_law T.fd_law ["_law_script"] (spLaw K) := by
  refine FnG.of (FunB.of T.F_law) sc_law (fun vs H Q E ⟨a, ns, e, _⟩ => by rw [e]; rfl) fun cdv A outer s H vs Q E hr hg h => ?_
  obtain ⟨t, D⟩ : ∃ t, ∀ a c, DSs (cxOf CX0 P w K mg base N_law "law" (defScope s_law) T.f_law cdv A outer s H E).nox (GA T.cls fld a c) ((defBody s_law).drop 1) t w_law :=
    ⟨_, fun a c => (dss_cons (ds_for PassesOwn.never rfl (di_range1 rfl T.z_range (da_cons de_int da_nil)) (dg_name sc_law.nd) (dss_one (ds_if (dt_not (dt_val (de_callX K (ok_l_right T) (hr.mono (by decide)) hg T.m_l_right T.F_l_right.kp (bd_l_right T) .nil dfl_nil (da_cons (de_var 1) da_nil)))) (dss_one (ds_ret de_bl)) dss_nil)))
    (dss_one (ds_ret de_bl)))⟩
  have D1 : PSs (cxOf CX0 P w K mg base N_law "law" (defScope s_law) T.f_law cdv A outer s H E).nox (defBody s_law) (tSeq (tAsg (tCall (spDeckA K) [] E0 (tCons (tVar 0) tNil)) (gName 1)) t) :=
    pss_cons (ps_set (i := 1) sc_law.nd rfl (.inl rfl) (pg_call (ok_l_deck T) (hr.mono (by decide)) hg rfl T.m_l_deck T.F_l_deck.kp (bd_l_deck T) .nil pass0 (pa_cons (pv 0) pa_nil))) (D 0 0).ps
  exact ⟨_, D1.nox, rd_lawA (by decide) (fun p c => (D p c).sim) pf_law h⟩
end
theorem all_mk {l : PySem.W.OpenLaw} {w : World} {K : PySem.W.Frag} {h : Heap} {mg : Str → Option Value} {fa : Addr} (X : K.In h) (G : h.Ns mainGlobals mg) (hfa : mg "law" = some (.ref fa))
    {C0 : Addr}
    (nc0 : PySem.W.nsIn K mainGlobals "Sorter" = some (some (.ref C0))) (pa0 : PySem.W.plainGet K C0 Str.empty = true) (pb0 : PySem.W.hasDictIn K C0 = true) (pc0 : PySem.W.plainOver K C0 = true) (pd0 : PySem.W.findIn K (.ref C0) "__setattr__" = some (some (.builtin "object.__setattr__"))) (pe0 : PySem.W.makesIn K C0 = true) (pk0 : PySem.W.keepIn K (.ref C0) = true)
    (rd0 : PySem.W.readsIn K C0 (.type "type") = true) (ga0 : PySem.W.specialIn K (.ref C0) "__getattribute__" = some (some (.builtin "type.__getattribute__")))
    (sf0 : PySem.W.selfFirst K C0 = true)
    (na0_0 : PySem.W.findIn K (.ref C0) "boxes" = some none)
    (na0_1 : PySem.W.findIn K (.ref C0) "rule" = some none)
    {C1 : Addr}
    (nc1 : PySem.W.nsIn K mainGlobals "Pairing" = some (some (.ref C1))) (pa1 : PySem.W.plainGet K C1 Str.empty = true) (pb1 : PySem.W.hasDictIn K C1 = true) (pc1 : PySem.W.plainOver K C1 = true) (pd1 : PySem.W.findIn K (.ref C1) "__setattr__" = some (some (.builtin "object.__setattr__"))) (pe1 : PySem.W.makesIn K C1 = true) (pk1 : PySem.W.keepIn K (.ref C1) = true)
    (na1_0 : PySem.W.findIn K (.ref C1) "first_sorter" = some none)
    (na1_1 : PySem.W.findIn K (.ref C1) "second_sorter" = some none)
    {C2 : Addr}
    (nc2 : PySem.W.nsIn K mainGlobals "LastDigit" = some (some (.ref C2))) (pa2 : PySem.W.plainGet K C2 Str.empty = true) (pb2 : PySem.W.hasDictIn K C2 = true) (pc2 : PySem.W.plainOver K C2 = true) (pd2 : PySem.W.findIn K (.ref C2) "__setattr__" = some (some (.builtin "object.__setattr__"))) (pe2 : PySem.W.makesIn K C2 = true) (pk2 : PySem.W.keepIn K (.ref C2) = true)
    (na2_0 : PySem.W.findIn K (.ref C2) "prime" = some none)
    (na2_1 : PySem.W.findIn K (.ref C2) "after" = some none)
    {C3 : Addr}
    (nc3 : PySem.W.nsIn K mainGlobals "Remainder" = some (some (.ref C3))) (pa3 : PySem.W.plainGet K C3 Str.empty = true) (pb3 : PySem.W.hasDictIn K C3 = true) (pc3 : PySem.W.plainOver K C3 = true) (pd3 : PySem.W.findIn K (.ref C3) "__setattr__" = some (some (.builtin "object.__setattr__"))) (pe3 : PySem.W.makesIn K C3 = true) (pk3 : PySem.W.keepIn K (.ref C3) = true)
    (na3_0 : PySem.W.findIn K (.ref C3) "modulus" = some none)
    {f0 : Addr} {od0 an0 : Option Addr} {sl0 : Array (Option Value)} {oc0 dc0 pm0 cd0 ct0 : Value} {kV0 : Value}
    (a0 : PySem.W.nsIn K mainGlobals "last_digit" = some (some (.ref f0)))
    (l0 : K.lookup f0 = some ⟨oc0, od0, .func (PySem.W.fnOf "last_digit" "last_digit" (defArgs s_last_digit) (defBody s_last_digit) (defScope s_last_digit) .none kV0 dc0 pm0 an0 cd0 ct0), sl0⟩) (c0 : PySem.W.codeIn K cd0 "last_digit" = true) (k0 : PySem.W.keepIn K (.ref f0) = true)
    {f1 : Addr} {od1 an1 : Option Addr} {sl1 : Array (Option Value)} {oc1 dc1 pm1 cd1 ct1 : Value} {kV1 : Value}
    (a1 : PySem.W.findIn K (.ref C3) "__init__" = some (some (.ref f1))) (i1 : PySem.W.isFn K (.ref f1) = true)
    (l1 : K.lookup f1 = some ⟨oc1, od1, .func (PySem.W.fnOf "__init__" "Remainder.__init__" (defArgs s_Remainder_uinitu) (defBody s_Remainder_uinitu) (defScope s_Remainder_uinitu) .none kV1 dc1 pm1 an1 cd1 ct1), sl1⟩) (c1 : PySem.W.codeIn K cd1 "Remainder.__init__" = true) (k1 : PySem.W.keepIn K (.ref f1) = true)
    {f2 : Addr} {od2 an2 : Option Addr} {sl2 : Array (Option Value)} {oc2 dc2 pm2 cd2 ct2 : Value} {kV2 : Value}
    (a2 : PySem.W.findIn K (.ref C3) "__call__" = some (some (.ref f2))) (i2 : PySem.W.isFn K (.ref f2) = true)
    (l2 : K.lookup f2 = some ⟨oc2, od2, .func (PySem.W.fnOf "__call__" "Remainder.__call__" (defArgs s_Remainder_ucallu) (defBody s_Remainder_ucallu) (defScope s_Remainder_ucallu) .none kV2 dc2 pm2 an2 cd2 ct2), sl2⟩) (c2 : PySem.W.codeIn K cd2 "Remainder.__call__" = true) (k2 : PySem.W.keepIn K (.ref f2) = true)
    (j2 : PySem.W.fnIn K f2 = true)
    {f3 : Addr} {od3 an3 : Option Addr} {sl3 : Array (Option Value)} {oc3 dc3 pm3 cd3 ct3 : Value} {kV3 : Value}
    (a3 : PySem.W.findIn K (.ref C2) "__init__" = some (some (.ref f3))) (i3 : PySem.W.isFn K (.ref f3) = true)
    (l3 : K.lookup f3 = some ⟨oc3, od3, .func (PySem.W.fnOf "__init__" "LastDigit.__init__" (defArgs s_LastDigit_uinitu) (defBody s_LastDigit_uinitu) (defScope s_LastDigit_uinitu) .none kV3 dc3 pm3 an3 cd3 ct3), sl3⟩) (c3 : PySem.W.codeIn K cd3 "LastDigit.__init__" = true) (k3 : PySem.W.keepIn K (.ref f3) = true)
    {f4 : Addr} {od4 an4 : Option Addr} {sl4 : Array (Option Value)} {oc4 dc4 pm4 cd4 ct4 : Value} {kV4 : Value}
    (a4 : PySem.W.findIn K (.ref C2) "__call__" = some (some (.ref f4))) (i4 : PySem.W.isFn K (.ref f4) = true)
    (l4 : K.lookup f4 = some ⟨oc4, od4, .func (PySem.W.fnOf "__call__" "LastDigit.__call__" (defArgs s_LastDigit_ucallu) (defBody s_LastDigit_ucallu) (defScope s_LastDigit_ucallu) .none kV4 dc4 pm4 an4 cd4 ct4), sl4⟩) (c4 : PySem.W.codeIn K cd4 "LastDigit.__call__" = true) (k4 : PySem.W.keepIn K (.ref f4) = true)
    (j4 : PySem.W.fnIn K f4 = true)
    {f5 : Addr} {od5 an5 : Option Addr} {sl5 : Array (Option Value)} {oc5 dc5 pm5 cd5 ct5 : Value} {kV5 : Value}
    (a5 : PySem.W.findIn K (.ref C1) "__init__" = some (some (.ref f5))) (i5 : PySem.W.isFn K (.ref f5) = true)
    (l5 : K.lookup f5 = some ⟨oc5, od5, .func (PySem.W.fnOf "__init__" "Pairing.__init__" (defArgs s_Pairing_uinitu) (defBody s_Pairing_uinitu) (defScope s_Pairing_uinitu) .none kV5 dc5 pm5 an5 cd5 ct5), sl5⟩) (c5 : PySem.W.codeIn K cd5 "Pairing.__init__" = true) (k5 : PySem.W.keepIn K (.ref f5) = true)
    {f6 : Addr} {od6 an6 : Option Addr} {sl6 : Array (Option Value)} {oc6 dc6 pm6 cd6 ct6 : Value} {kV6 : Value}
    (a6 : PySem.W.findIn K (.ref C1) "__call__" = some (some (.ref f6))) (i6 : PySem.W.isFn K (.ref f6) = true)
    (l6 : K.lookup f6 = some ⟨oc6, od6, .func (PySem.W.fnOf "__call__" "Pairing.__call__" (defArgs s_Pairing_ucallu) (defBody s_Pairing_ucallu) (defScope s_Pairing_ucallu) .none kV6 dc6 pm6 an6 cd6 ct6), sl6⟩) (c6 : PySem.W.codeIn K cd6 "Pairing.__call__" = true) (k6 : PySem.W.keepIn K (.ref f6) = true)
    (j6 : PySem.W.fnIn K f6 = true)
    {f7 : Addr} {od7 an7 : Option Addr} {sl7 : Array (Option Value)} {oc7 dc7 pm7 cd7 ct7 : Value} {kV7 : Value}
    (a7 : PySem.W.findIn K (.ref C0) "__init__" = some (some (.ref f7))) (i7 : PySem.W.isFn K (.ref f7) = true)
    (l7 : K.lookup f7 = some ⟨oc7, od7, .func (PySem.W.fnOf "__init__" "Sorter.__init__" (defArgs s_Sorter_uinitu) (defBody s_Sorter_uinitu) (defScope s_Sorter_uinitu) .none kV7 dc7 pm7 an7 cd7 ct7), sl7⟩) (c7 : PySem.W.codeIn K cd7 "Sorter.__init__" = true) (k7 : PySem.W.keepIn K (.ref f7) = true)
    {f8 : Addr} {od8 an8 : Option Addr} {sl8 : Array (Option Value)} {oc8 dc8 pm8 cd8 ct8 : Value} {kV8 : Value}
    {P8 : Addr} {rs8 : List Value} (cm8 : PySem.W.findCls K (.ref C0) (.type "type") "modulo" = some (.get (.builtin "classmethod.__get__") (.ref P8) .none (.ref C0))) (rc8 : PySem.W.recIn K P8 "classmethod" = some (.ref f8 :: rs8)) (fi8 : PySem.W.fnIn K f8 = true)
    (l8 : K.lookup f8 = some ⟨oc8, od8, .func (PySem.W.fnOf "modulo" "Sorter.modulo" (defArgs s_Sorter_modulo) (defBody s_Sorter_modulo) (defScope s_Sorter_modulo) .none kV8 dc8 pm8 an8 cd8 ct8), sl8⟩) (c8 : PySem.W.codeIn K cd8 "Sorter.modulo" = true) (k8 : PySem.W.keepIn K (.ref f8) = true)
    {f9 : Addr} {od9 an9 : Option Addr} {sl9 : Array (Option Value)} {oc9 dc9 pm9 cd9 ct9 : Value}
    {P9 : Addr} {rs9 : List Value} (cm9 : PySem.W.findCls K (.ref C0) (.type "type") "digits" = some (.get (.builtin "classmethod.__get__") (.ref P9) .none (.ref C0))) (rc9 : PySem.W.recIn K P9 "classmethod" = some (.ref f9 :: rs9)) (fi9 : PySem.W.fnIn K f9 = true)
    {KD9 : Addr} {kt9 : Tok}
    (l9 : K.lookup f9 = some ⟨oc9, od9, .func (PySem.W.fnOf "digits" "Sorter.digits" (defArgs s_Sorter_digits) (defBody s_Sorter_digits) (defScope s_Sorter_digits) .none (.ref KD9) dc9 pm9 an9 cd9 ct9), sl9⟩) (c9 : PySem.W.codeIn K cd9 "Sorter.digits" = true) (k9 : PySem.W.keepIn K (.ref f9) = true)
    (kd9 : PySem.W.nsIn K KD9 "after" = some (some (.int 0 kt9)))
    {f10 : Addr} {od10 an10 : Option Addr} {sl10 : Array (Option Value)} {oc10 dc10 pm10 cd10 ct10 : Value} {kV10 : Value}
    (a10 : PySem.W.findIn K (.ref C0) "__call__" = some (some (.ref f10))) (i10 : PySem.W.isFn K (.ref f10) = true)
    (l10 : K.lookup f10 = some ⟨oc10, od10, .func (PySem.W.fnOf "__call__" "Sorter.__call__" (defArgs s_Sorter_ucallu) (defBody s_Sorter_ucallu) (defScope s_Sorter_ucallu) .none kV10 dc10 pm10 an10 cd10 ct10), sl10⟩) (c10 : PySem.W.codeIn K cd10 "Sorter.__call__" = true) (k10 : PySem.W.keepIn K (.ref f10) = true)
    (j10 : PySem.W.fnIn K f10 = true)
    {f11 : Addr} {od11 an11 : Option Addr} {sl11 : Array (Option Value)} {oc11 dc11 pm11 cd11 ct11 : Value} {kV11 : Value}
    (a11 : PySem.W.findIn K (.ref C0) "__mul__" = some (some (.ref f11))) (i11 : PySem.W.isFn K (.ref f11) = true)
    (l11 : K.lookup f11 = some ⟨oc11, od11, .func (PySem.W.fnOf "__mul__" "Sorter.__mul__" (defArgs s_Sorter_umulu) (defBody s_Sorter_umulu) (defScope s_Sorter_umulu) .none kV11 dc11 pm11 an11 cd11 ct11), sl11⟩) (c11 : PySem.W.codeIn K cd11 "Sorter.__mul__" = true) (k11 : PySem.W.keepIn K (.ref f11) = true)
    {f12 : Addr} {od12 an12 : Option Addr} {sl12 : Array (Option Value)} {oc12 dc12 pm12 cd12 ct12 : Value} {kV12 : Value}
    (a12 : PySem.W.nsIn K mainGlobals "_law_deck" = some (some (.ref f12)))
    (l12 : K.lookup f12 = some ⟨oc12, od12, .func (PySem.W.fnOf "_law_deck" "_law_deck" (defArgs s_l_deck) (defBody s_l_deck) (defScope s_l_deck) .none kV12 dc12 pm12 an12 cd12 ct12), sl12⟩) (c12 : PySem.W.codeIn K cd12 "_law_deck" = true) (k12 : PySem.W.keepIn K (.ref f12) = true)
    {f13 : Addr} {od13 an13 : Option Addr} {sl13 : Array (Option Value)} {oc13 dc13 pm13 cd13 ct13 : Value} {kV13 : Value}
    (a13 : PySem.W.nsIn K mainGlobals "_law_draw" = some (some (.ref f13)))
    (l13 : K.lookup f13 = some ⟨oc13, od13, .func (PySem.W.fnOf "_law_draw" "_law_draw" (defArgs s_l_draw) (defBody s_l_draw) (defScope s_l_draw) .none kV13 dc13 pm13 an13 cd13 ct13), sl13⟩) (c13 : PySem.W.codeIn K cd13 "_law_draw" = true) (k13 : PySem.W.keepIn K (.ref f13) = true)
    {f14 : Addr} {od14 an14 : Option Addr} {sl14 : Array (Option Value)} {oc14 dc14 pm14 cd14 ct14 : Value} {kV14 : Value}
    (a14 : PySem.W.nsIn K mainGlobals "_law_pick" = some (some (.ref f14)))
    (l14 : K.lookup f14 = some ⟨oc14, od14, .func (PySem.W.fnOf "_law_pick" "_law_pick" (defArgs s_l_pick) (defBody s_l_pick) (defScope s_l_pick) .none kV14 dc14 pm14 an14 cd14 ct14), sl14⟩) (c14 : PySem.W.codeIn K cd14 "_law_pick" = true) (k14 : PySem.W.keepIn K (.ref f14) = true)
    {f15 : Addr} {od15 an15 : Option Addr} {sl15 : Array (Option Value)} {oc15 dc15 pm15 cd15 ct15 : Value} {kV15 : Value}
    (a15 : PySem.W.nsIn K mainGlobals "_law_last" = some (some (.ref f15)))
    (l15 : K.lookup f15 = some ⟨oc15, od15, .func (PySem.W.fnOf "_law_last" "_law_last" (defArgs s_l_last) (defBody s_l_last) (defScope s_l_last) .none kV15 dc15 pm15 an15 cd15 ct15), sl15⟩) (c15 : PySem.W.codeIn K cd15 "_law_last" = true) (k15 : PySem.W.keepIn K (.ref f15) = true)
    {f16 : Addr} {od16 an16 : Option Addr} {sl16 : Array (Option Value)} {oc16 dc16 pm16 cd16 ct16 : Value} {kV16 : Value}
    (a16 : PySem.W.nsIn K mainGlobals "_law_plan" = some (some (.ref f16)))
    (l16 : K.lookup f16 = some ⟨oc16, od16, .func (PySem.W.fnOf "_law_plan" "_law_plan" (defArgs s_l_plan) (defBody s_l_plan) (defScope s_l_plan) .none kV16 dc16 pm16 an16 cd16 ct16), sl16⟩) (c16 : PySem.W.codeIn K cd16 "_law_plan" = true) (k16 : PySem.W.keepIn K (.ref f16) = true)
    {f17 : Addr} {od17 an17 : Option Addr} {sl17 : Array (Option Value)} {oc17 dc17 pm17 cd17 ct17 : Value} {kV17 : Value}
    (a17 : PySem.W.nsIn K mainGlobals "_law_made" = some (some (.ref f17)))
    (l17 : K.lookup f17 = some ⟨oc17, od17, .func (PySem.W.fnOf "_law_made" "_law_made" (defArgs s_l_made) (defBody s_l_made) (defScope s_l_made) .none kV17 dc17 pm17 an17 cd17 ct17), sl17⟩) (c17 : PySem.W.codeIn K cd17 "_law_made" = true) (k17 : PySem.W.keepIn K (.ref f17) = true)
    {f18 : Addr} {od18 an18 : Option Addr} {sl18 : Array (Option Value)} {oc18 dc18 pm18 cd18 ct18 : Value} {kV18 : Value}
    (a18 : PySem.W.nsIn K mainGlobals "_law_many" = some (some (.ref f18)))
    (l18 : K.lookup f18 = some ⟨oc18, od18, .func (PySem.W.fnOf "_law_many" "_law_many" (defArgs s_l_many) (defBody s_l_many) (defScope s_l_many) .none kV18 dc18 pm18 an18 cd18 ct18), sl18⟩) (c18 : PySem.W.codeIn K cd18 "_law_many" = true) (k18 : PySem.W.keepIn K (.ref f18) = true)
    {f19 : Addr} {od19 an19 : Option Addr} {sl19 : Array (Option Value)} {oc19 dc19 pm19 cd19 ct19 : Value} {kV19 : Value}
    (a19 : PySem.W.nsIn K mainGlobals "_law_place" = some (some (.ref f19)))
    (l19 : K.lookup f19 = some ⟨oc19, od19, .func (PySem.W.fnOf "_law_place" "_law_place" (defArgs s_l_place) (defBody s_l_place) (defScope s_l_place) .none kV19 dc19 pm19 an19 cd19 ct19), sl19⟩) (c19 : PySem.W.codeIn K cd19 "_law_place" = true) (k19 : PySem.W.keepIn K (.ref f19) = true)
    {f20 : Addr} {od20 an20 : Option Addr} {sl20 : Array (Option Value)} {oc20 dc20 pm20 cd20 ct20 : Value} {kV20 : Value}
    (a20 : PySem.W.nsIn K mainGlobals "_law_integers" = some (some (.ref f20)))
    (l20 : K.lookup f20 = some ⟨oc20, od20, .func (PySem.W.fnOf "_law_integers" "_law_integers" (defArgs s_l_integers) (defBody s_l_integers) (defScope s_l_integers) .none kV20 dc20 pm20 an20 cd20 ct20), sl20⟩) (c20 : PySem.W.codeIn K cd20 "_law_integers" = true) (k20 : PySem.W.keepIn K (.ref f20) = true)
    {f21 : Addr} {od21 an21 : Option Addr} {sl21 : Array (Option Value)} {oc21 dc21 pm21 cd21 ct21 : Value} {kV21 : Value}
    (a21 : PySem.W.nsIn K mainGlobals "_law_right" = some (some (.ref f21)))
    (l21 : K.lookup f21 = some ⟨oc21, od21, .func (PySem.W.fnOf "_law_right" "_law_right" (defArgs s_l_right) (defBody s_l_right) (defScope s_l_right) .none kV21 dc21 pm21 an21 cd21 ct21), sl21⟩) (c21 : PySem.W.codeIn K cd21 "_law_right" = true) (k21 : PySem.W.keepIn K (.ref f21) = true)
    {f22 : Addr} {od22 an22 : Option Addr} {sl22 : Array (Option Value)} {oc22 dc22 pm22 cd22 ct22 : Value} {kV22 : Value}
    (a22 : PySem.W.nsIn K mainGlobals "law" = some (some (.ref f22)))
    (l22 : K.lookup f22 = some ⟨oc22, od22, .func (PySem.W.fnOf "law" "law" (defArgs s_law) (defBody s_law) (defScope s_law) .none kV22 dc22 pm22 an22 cd22 ct22), sl22⟩) (c22 : PySem.W.codeIn K cd22 "law" = true) (k22 : PySem.W.keepIn K (.ref f22) = true)
    (z_int : PySem.W.nsIn K mainGlobals "int" = some none)
    (z_len : PySem.W.nsIn K mainGlobals "len" = some none)
    (z_list : PySem.W.nsIn K mainGlobals "list" = some none)
    (z_max : PySem.W.nsIn K mainGlobals "max" = some none)
    (z_range : PySem.W.nsIn K mainGlobals "range" = some none)
    (z_repr : PySem.W.nsIn K mainGlobals "repr" = some none)
    : ∃ fd : FuncData, (∀ (s : Shared) (v : Value), BindsTo s fd ⟨[v], []⟩ [("_law_script", v)]) ∧ ∀ base : Heap, K.In base → base.Ns mainGlobals mg → FnG l.prog w K mg base CX0 13 fa fd ["_law_script"] (spLaw K) := by
  have e := hfa.symm.trans (PySem.W.mg_of X G a22)
  cases e
  let T : Txt K mg := { C_Sorter := C0, mC_Sorter := PySem.W.mg_of X G nc0, cl_Sorter := ⟨pa0, pb0, pc0, pd0⟩, mk_Sorter := ⟨pe0, a7, i7, pk0⟩, na_Sorter_boxes := na0_0, na_Sorter_rule := na0_1, ci_Sorter := ⟨a10, i10, j10⟩, rd_Sorter := ⟨rd0, ga0⟩, pp_Sorter_digits := P9, cm_Sorter_digits := ⟨cm9, ⟨_, rc9⟩, fi9⟩, pp_Sorter_modulo := P8, cm_Sorter_modulo := ⟨cm8, ⟨_, rc8⟩, fi8⟩, sf_Sorter := sf0, bo_Sorter_umulu := a11, bf_Sorter_umulu := i11, C_Pairing := C1, mC_Pairing := PySem.W.mg_of X G nc1, cl_Pairing := ⟨pa1, pb1, pc1, pd1⟩, mk_Pairing := ⟨pe1, a5, i5, pk1⟩, na_Pairing_first_sorter := na1_0, na_Pairing_second_sorter := na1_1, ci_Pairing := ⟨a6, i6, j6⟩, C_LastDigit := C2, mC_LastDigit := PySem.W.mg_of X G nc2, cl_LastDigit := ⟨pa2, pb2, pc2, pd2⟩, mk_LastDigit := ⟨pe2, a3, i3, pk2⟩, na_LastDigit_prime := na2_0, na_LastDigit_after := na2_1, ci_LastDigit := ⟨a4, i4, j4⟩, C_Remainder := C3, mC_Remainder := PySem.W.mg_of X G nc3, cl_Remainder := ⟨pa3, pb3, pc3, pd3⟩, mk_Remainder := ⟨pe3, a1, i1, pk3⟩, na_Remainder_modulus := na3_0, ci_Remainder := ⟨a2, i2, j2⟩, f_last_digit := _, fd_last_digit := _, F_last_digit := fun_mk l0 c0 k0, m_last_digit := PySem.W.mg_of X G a0, f_Remainder_uinitu := _, fd_Remainder_uinitu := _, F_Remainder_uinitu := fun_mk l1 c1 k1, f_Remainder_ucallu := _, fd_Remainder_ucallu := _, F_Remainder_ucallu := fun_mk l2 c2 k2, f_LastDigit_uinitu := _, fd_LastDigit_uinitu := _, F_LastDigit_uinitu := fun_mk l3 c3 k3, f_LastDigit_ucallu := _, fd_LastDigit_ucallu := _, F_LastDigit_ucallu := fun_mk l4 c4 k4, f_Pairing_uinitu := _, fd_Pairing_uinitu := _, F_Pairing_uinitu := fun_mk l5 c5 k5, f_Pairing_ucallu := _, fd_Pairing_ucallu := _, F_Pairing_ucallu := fun_mk l6 c6 k6, f_Sorter_uinitu := _, fd_Sorter_uinitu := _, F_Sorter_uinitu := fun_mk l7 c7 k7, f_Sorter_modulo := _, fd_Sorter_modulo := _, F_Sorter_modulo := fun_mk l8 c8 k8, f_Sorter_digits := f9, fd_Sorter_digits := _, FD_Sorter_digits := ⟨⟨_, _, _, _, _, _, _, _, _, _, rfl, l9, c9, .inl ⟨rfl, rfl⟩, .inr ⟨KD9, rfl, fun q hq => by simp at hq; subst hq; exact ⟨_, kd9, ⟨_, rfl⟩⟩⟩⟩, k9⟩, f_Sorter_ucallu := _, fd_Sorter_ucallu := _, F_Sorter_ucallu := fun_mk l10 c10 k10, f_Sorter_umulu := _, fd_Sorter_umulu := _, F_Sorter_umulu := fun_mk l11 c11 k11, f_l_deck := _, fd_l_deck := _, F_l_deck := fun_mk l12 c12 k12, m_l_deck := PySem.W.mg_of X G a12, f_l_draw := _, fd_l_draw := _, F_l_draw := fun_mk l13 c13 k13, m_l_draw := PySem.W.mg_of X G a13, f_l_pick := _, fd_l_pick := _, F_l_pick := fun_mk l14 c14 k14, m_l_pick := PySem.W.mg_of X G a14, f_l_last := _, fd_l_last := _, F_l_last := fun_mk l15 c15 k15, m_l_last := PySem.W.mg_of X G a15, f_l_plan := _, fd_l_plan := _, F_l_plan := fun_mk l16 c16 k16, m_l_plan := PySem.W.mg_of X G a16, f_l_made := _, fd_l_made := _, F_l_made := fun_mk l17 c17 k17, m_l_made := PySem.W.mg_of X G a17, f_l_many := _, fd_l_many := _, F_l_many := fun_mk l18 c18 k18, m_l_many := PySem.W.mg_of X G a18, f_l_place := _, fd_l_place := _, F_l_place := fun_mk l19 c19 k19, m_l_place := PySem.W.mg_of X G a19, f_l_integers := _, fd_l_integers := _, F_l_integers := fun_mk l20 c20 k20, m_l_integers := PySem.W.mg_of X G a20, f_l_right := _, fd_l_right := _, F_l_right := fun_mk l21 c21 k21, m_l_right := PySem.W.mg_of X G a21, f_law := _, fd_law := _, F_law := fun_mk l22 c22 k22, m_law := PySem.W.mg_of X G a22, z_int := PySem.W.mg_none_of X G z_int, z_len := PySem.W.mg_none_of X G z_len, z_list := PySem.W.mg_none_of X G z_list, z_max := PySem.W.mg_none_of X G z_max, z_range := PySem.W.mg_none_of X G z_range, z_repr := PySem.W.mg_none_of X G z_repr }
  exact ⟨T.fd_law, fun s v => .of_eq rfl, fun base _ _ => ok_law T⟩
end Pg
open PySem PySem.W PyProof.Rows
set_option maxRecDepth 100000 in
set_option maxHeartbeats 0 in
theorem PySem.Challenge.cw_whateverboxes_k26_sorters_holds : PySem.Challenge.rw_whateverboxes_k26_sorters.Holds := by
  w_on; o_law; k_head; (case hw => w_witness2)
  k_fill
  refine L3.walk_ofG (l := PySem.Challenge.rw_whateverboxes_k26_sorters) (n := 63) (k := 13) (x := "_law_script") (sp := fun K => L3.spLaw K) rfl (by decide) rfl ⟨rfl, by decide, by decide⟩ (fun w h Y => PySem.W.kIn_of Y) ?F (fun _ _ a ns hl hS => ⟨a, ns, rfl, hS, hl, fun _ => rfl⟩)
  case F =>
    intro w mg fa h KX G hmg
    refine' Pg.all_mk KX G hmg ?nc0 ?pa0 ?pb0 ?pc0 ?pd0 ?pe0 ?pk0 ?rd0 ?ga0 ?sf0 ?na0_0 ?na0_1 ?nc1 ?pa1 ?pb1 ?pc1 ?pd1 ?pe1 ?pk1 ?na1_0 ?na1_1 ?nc2 ?pa2 ?pb2 ?pc2 ?pd2 ?pe2 ?pk2 ?na2_0 ?na2_1 ?nc3 ?pa3 ?pb3 ?pc3 ?pd3 ?pe3 ?pk3 ?na3_0 ?a0 ?l0 ?c0 ?k0 ?a1 ?i1 ?l1 ?c1 ?k1 ?a2 ?i2 ?l2 ?c2 ?k2 ?j2 ?a3 ?i3 ?l3 ?c3 ?k3 ?a4 ?i4 ?l4 ?c4 ?k4 ?j4 ?a5 ?i5 ?l5 ?c5 ?k5 ?a6 ?i6 ?l6 ?c6 ?k6 ?j6 ?a7 ?i7 ?l7 ?c7 ?k7 ?cm8 ?rc8 ?fi8 ?l8 ?c8 ?k8 ?cm9 ?rc9 ?fi9 ?l9 ?c9 ?k9 ?kd9 ?a10 ?i10 ?l10 ?c10 ?k10 ?j10 ?a11 ?i11 ?l11 ?c11 ?k11 ?a12 ?l12 ?c12 ?k12 ?a13 ?l13 ?c13 ?k13 ?a14 ?l14 ?c14 ?k14 ?a15 ?l15 ?c15 ?k15 ?a16 ?l16 ?c16 ?k16 ?a17 ?l17 ?c17 ?k17 ?a18 ?l18 ?c18 ?k18 ?a19 ?l19 ?c19 ?k19 ?a20 ?l20 ?c20 ?k20 ?a21 ?l21 ?c21 ?k21 ?a22 ?l22 ?c22 ?k22 ?z_int ?z_len ?z_list ?z_max ?z_range ?z_repr
    (case nc0 => k_is)
    (case pa0 => k_is)
    (case pb0 => k_is)
    (case pc0 => k_is)
    (case pd0 => k_is)
    (case pe0 => k_is)
    (case pk0 => k_is)
    (case rd0 => k_is)
    (case ga0 => k_is)
    (case sf0 => k_is)
    (case na0_0 => k_is)
    (case na0_1 => k_is)
    (case nc1 => k_is)
    (case pa1 => k_is)
    (case pb1 => k_is)
    (case pc1 => k_is)
    (case pd1 => k_is)
    (case pe1 => k_is)
    (case pk1 => k_is)
    (case na1_0 => k_is)
    (case na1_1 => k_is)
    (case nc2 => k_is)
    (case pa2 => k_is)
    (case pb2 => k_is)
    (case pc2 => k_is)
    (case pd2 => k_is)
    (case pe2 => k_is)
    (case pk2 => k_is)
    (case na2_0 => k_is)
    (case na2_1 => k_is)
    (case nc3 => k_is)
    (case pa3 => k_is)
    (case pb3 => k_is)
    (case pc3 => k_is)
    (case pd3 => k_is)
    (case pe3 => k_is)
    (case pk3 => k_is)
    (case na3_0 => k_is)
    (case a0 => k_is)
    (case l0 => k_is)
    (case c0 => k_is)
    (case k0 => k_is)
    (case a1 => k_is)
    (case i1 => k_is)
    (case l1 => k_is)
    (case c1 => k_is)
    (case k1 => k_is)
    (case a2 => k_is)
    (case i2 => k_is)
    (case l2 => k_is)
    (case c2 => k_is)
    (case k2 => k_is)
    (case j2 => k_is)
    (case a3 => k_is)
    (case i3 => k_is)
    (case l3 => k_is)
    (case c3 => k_is)
    (case k3 => k_is)
    (case a4 => k_is)
    (case i4 => k_is)
    (case l4 => k_is)
    (case c4 => k_is)
    (case k4 => k_is)
    (case j4 => k_is)
    (case a5 => k_is)
    (case i5 => k_is)
    (case l5 => k_is)
    (case c5 => k_is)
    (case k5 => k_is)
    (case a6 => k_is)
    (case i6 => k_is)
    (case l6 => k_is)
    (case c6 => k_is)
    (case k6 => k_is)
    (case j6 => k_is)
    (case a7 => k_is)
    (case i7 => k_is)
    (case l7 => k_is)
    (case c7 => k_is)
    (case k7 => k_is)
    (case cm8 => k_is)
    (case rc8 => k_is)
    (case fi8 => k_is)
    (case l8 => k_is)
    (case c8 => k_is)
    (case k8 => k_is)
    (case cm9 => k_is)
    (case rc9 => k_is)
    (case fi9 => k_is)
    (case l9 => k_is)
    (case c9 => k_is)
    (case k9 => k_is)
    (case kd9 => k_is)
    (case a10 => k_is)
    (case i10 => k_is)
    (case l10 => k_is)
    (case c10 => k_is)
    (case k10 => k_is)
    (case j10 => k_is)
    (case a11 => k_is)
    (case i11 => k_is)
    (case l11 => k_is)
    (case c11 => k_is)
    (case k11 => k_is)
    (case a12 => k_is)
    (case l12 => k_is)
    (case c12 => k_is)
    (case k12 => k_is)
    (case a13 => k_is)
    (case l13 => k_is)
    (case c13 => k_is)
    (case k13 => k_is)
    (case a14 => k_is)
    (case l14 => k_is)
    (case c14 => k_is)
    (case k14 => k_is)
    (case a15 => k_is)
    (case l15 => k_is)
    (case c15 => k_is)
    (case k15 => k_is)
    (case a16 => k_is)
    (case l16 => k_is)
    (case c16 => k_is)
    (case k16 => k_is)
    (case a17 => k_is)
    (case l17 => k_is)
    (case c17 => k_is)
    (case k17 => k_is)
    (case a18 => k_is)
    (case l18 => k_is)
    (case c18 => k_is)
    (case k18 => k_is)
    (case a19 => k_is)
    (case l19 => k_is)
    (case c19 => k_is)
    (case k19 => k_is)
    (case a20 => k_is)
    (case l20 => k_is)
    (case c20 => k_is)
    (case k20 => k_is)
    (case a21 => k_is)
    (case l21 => k_is)
    (case c21 => k_is)
    (case k21 => k_is)
    (case a22 => k_is)
    (case l22 => k_is)
    (case c22 => k_is)
    (case k22 => k_is)
    (case z_int => k_is)
    (case z_len => k_is)
    (case z_list => k_is)
    (case z_max => k_is)
    (case z_range => k_is)
    (case z_repr => k_is)
#print axioms PySem.Challenge.cw_whateverboxes_k26_sorters_holds
