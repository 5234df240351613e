import PyProof.Rows.All
import Wide.All
import OpenK.AllK
import Wide.FinOn
import PySem.Challenge.RW_whateverboxes_k29_right_forms_by_any_han
import HandS.ForMost
import HandS.Wide
import HandS.Style
import HandS.TupAny
import HandS.TupMul
import HandS.Defaults
import HandS.Star
import HandS.More
import HandS.ClsMeth
import HandS.Zip
import KE.GoesMore
import KE.GoesZip
import KE.GoesEnum
import HandS.IsInst
import HandS.SortInts
import HandS.Conv
import HandS.Text
import HandS.RaiseMore
import HandS.Strs
import HandS.SetBool
import HandS.Dict
import HandS.WordsDict
import HandS.MakeKwOnly
import HandS.TryOnly
import KE.KTupSum
import HandS.SetFor
set_option Elab.async false
set_option linter.all false
set_option maxRecDepth 100000
set_option autoImplicit false
namespace L3
open PySem L2
inductive D where
  | non | bl (b : Bool) | int (i : Int) | str (x : Str)
  | lst (xs : List D) | tup (xs : List D)
  | dct (ks : List Key) (vs : List D)
  | ins (t : Nat) (fs : List D)
  | deck
  | cls (t : Nat)
  /-- an object as the heap has it -/
  | raw (a : Addr) (o : HO)
  /-- a tuple whose object is known to have no dict -/
  | ptup (xs : List D)
structure Gx where
  cls : Nat → Addr
  fld : Nat → List Str
  deck : Addr
  dk : List Addr
  DI : Nat → Hp → Prop
  frame : ∀ n (H H' : Hp), (∀ a ∈ dk, ∀ o, H a = some o → H' a = some o) → DI n H → DI n H'
  dal : ∀ n H, DI n H → ∀ a ∈ dk, H a ≠ none
mutual
def Rep (K : PySem.W.Frag) (G : Gx) (H : Hp) (v : V) : D → Prop
  | .non => v = .non
  | .bl b => v = .bl b
  | .int i => v = .int i
  | .str x => v = .str x
  | .lst ds => ∃ a xs, v = .ref a ∧ H a = some (.lst xs) ∧ RepAll K G H xs ds
  | .tup ds => ∃ a xs, v = .ref a ∧ SqT K H a xs ∧ RepAll K G H xs ds
  | .dct ks ds => ∃ a xs, v = .ref a ∧ H a = some (.dK (ks.zip xs)) ∧ ks.length = xs.length ∧ RepAll K G H xs ds
  | .ins t ds => ∃ a dx xs, v = .ref a ∧ H a = some (.ins (G.cls t) dx ((G.fld t).zip xs)) ∧ xs.length ≤ (G.fld t).length ∧ RepAll K G H xs ds
  | .deck => v = .ref G.deck
  | .cls t => v = .ref (G.cls t)
  | .raw a o => v = .ref a ∧ H a = some o
  | .ptup ds => ∃ a xs o, v = .ref a ∧ H a = some (.frz o (.tup xs)) ∧ o.cls = .type "tuple" ∧ o.dict = none ∧ RepAll K G H xs ds
def RepAll (K : PySem.W.Frag) (G : Gx) (H : Hp) (vs : List V) : List D → Prop
  | [] => vs = []
  | d :: ds => ∃ x xs, vs = x :: xs ∧ Rep K G H x d ∧ RepAll K G H xs ds
end
theorem same_t {K : PySem.W.Frag} {H H' : Hp} {a : Addr} {xs : List V} (e : Same H H') (h : SqT K H a xs) : SqT K H' a xs := by
  rcases h with (h | ⟨o, h⟩) | h
  · exact .inl (.inl (e _ _ h))
  · exact .inl (.inr ⟨o, e _ _ h⟩)
  · exact .inr h
variable {K : PySem.W.Frag} {G : Gx} {H H' H1 H2 : Hp} {v : V} {d : D}
mutual
theorem Rep.mono (e : Same H H') : ∀ (d : D) {v : V}, Rep K G H v d → Rep K G H' v d
  | .non, _, h => h
  | .bl _, _, h => h
  | .int _, _, h => h
  | .str _, _, h => h
  | .lst ds, _, ⟨a, xs, h1, h2, h3⟩ => ⟨a, xs, h1, e _ _ h2, RepAll.mono e ds h3⟩
  | .tup ds, _, ⟨a, xs, h1, h2, h3⟩ => ⟨a, xs, h1, same_t e h2, RepAll.mono e ds h3⟩
  | .dct ks ds, _, ⟨a, xs, h1, h2, h3, h4⟩ => ⟨a, xs, h1, e _ _ h2, h3, RepAll.mono e ds h4⟩
  | .ins t ds, _, ⟨a, dx, xs, h1, h2, h3, h4⟩ => ⟨a, dx, xs, h1, e _ _ h2, h3, RepAll.mono e ds h4⟩
  | .deck, _, h => h
  | .cls _, _, h => h
  | .raw _ _, _, ⟨h1, h2⟩ => ⟨h1, e _ _ h2⟩
  | .ptup ds, _, ⟨a, xs, o, h1, h2, h3, h4, h5⟩ => ⟨a, xs, o, h1, e _ _ h2, h3, h4, RepAll.mono e ds h5⟩
theorem RepAll.mono (e : Same H H') : ∀ (ds : List D) {vs : List V}, RepAll K G H vs ds → RepAll K G H' vs ds
  | [], _, h => h
  | d :: ds, _, ⟨x, xs, h1, h2, h3⟩ => ⟨x, xs, h1, Rep.mono e d h2, RepAll.mono e ds h3⟩
end
theorem RepAll.length : ∀ {ds : List D} {vs : List V}, RepAll K G H vs ds → vs.length = ds.length
  | [], _, h => by cases h; rfl
  | d :: ds, _, ⟨x, xs, h1, h2, h3⟩ => by subst h1; simp [RepAll.length h3]
theorem RepAll.get : ∀ {ds : List D} {vs : List V} {i : Nat} {d : D}, RepAll K G H vs ds → ds[i]? = some d → ∃ v, vs[i]? = some v ∧ Rep K G H v d
  | [], _, _, _, _, e => by simp at e
  | d :: ds, _, 0, d', ⟨x, xs, h1, h2, h3⟩, e => by
    subst h1; simp at e; subst e; exact ⟨x, rfl, h2⟩
  | d :: ds, _, i + 1, d', ⟨x, xs, h1, h2, h3⟩, e => by
    subst h1
    obtain ⟨v, a, b⟩ := RepAll.get (i := i) (d := d') h3 (by simpa using e)
    exact ⟨v, by simpa using a, b⟩
theorem RepAll.getV : ∀ {ds : List D} {vs : List V} {i : Nat} {v : V}, RepAll K G H vs ds → vs[i]? = some v → ∃ d, ds[i]? = some d ∧ Rep K G H v d
  | [], _, _, _, h, e => by cases h; simp at e
  | d :: ds, _, 0, v, ⟨x, xs, h1, h2, h3⟩, e => by
    subst h1; simp at e; subst e; exact ⟨d, rfl, h2⟩
  | d :: ds, _, i + 1, v, ⟨x, xs, h1, h2, h3⟩, e => by
    subst h1
    obtain ⟨v, a, b⟩ := RepAll.getV (i := i) (v := v) h3 (by simpa using e)
    exact ⟨v, by simpa using a, b⟩
theorem RepAll.append : ∀ {ds es : List D} {vs us : List V}, RepAll K G H vs ds → RepAll K G H us es → RepAll K G H (vs ++ us) (ds ++ es)
  | [], _, _, _, h, h' => by cases h; exact h'
  | d :: ds, _, _, _, ⟨x, xs, h1, h2, h3⟩, h' => by subst h1; exact ⟨x, xs ++ _, rfl, h2, RepAll.append h3 h'⟩
theorem RepAll.drop : ∀ (n : Nat) {ds : List D} {vs : List V}, RepAll K G H vs ds → RepAll K G H (vs.drop n) (ds.drop n)
  | 0, _, _, h => h
  | _ + 1, [], _, h => by cases h; exact rfl
  | n + 1, d :: ds, _, ⟨x, xs, h1, h2, h3⟩ => by subst h1; exact RepAll.drop n h3
theorem RepAll.take : ∀ (n : Nat) {ds : List D} {vs : List V}, RepAll K G H vs ds → RepAll K G H (vs.take n) (ds.take n)
  | 0, _, _, h => rfl
  | _ + 1, [], _, h => by cases h; exact rfl
  | n + 1, d :: ds, _, ⟨x, xs, h1, h2, h3⟩ => by subst h1; exact ⟨x, _, rfl, h2, RepAll.take n h3⟩
theorem RepAll.reverse : ∀ {ds : List D} {vs : List V}, RepAll K G H vs ds → RepAll K G H vs.reverse ds.reverse
  | [], _, h => by cases h; exact rfl
  | d :: ds, _, ⟨x, xs, h1, h2, h3⟩ => by
    subst h1
    rw [List.reverse_cons, List.reverse_cons]
    exact (RepAll.reverse h3).append ⟨x, [], rfl, h2, rfl⟩
theorem RepAll.set : ∀ {ds : List D} {vs : List V} (i : Nat) {v : V} {d : D}, RepAll K G H vs ds → Rep K G H v d → RepAll K G H (vs.set i v) (ds.set i d)
  | [], _, _, _, _, h, _ => by cases h; exact rfl
  | _ :: _, _, 0, _, _, ⟨x, xs, h1, h2, h3⟩, r => by subst h1; exact ⟨_, xs, rfl, r, h3⟩
  | _ :: _, _, i + 1, _, _, ⟨x, xs, h1, h2, h3⟩, r => by subst h1; exact ⟨x, _, rfl, h2, RepAll.set i h3 r⟩
theorem RepAll.one {v : V} {d : D} (h : Rep K G H v d) : RepAll K G H [v] [d] := ⟨v, [], rfl, h, rfl⟩
theorem RepAll.dropLast {ds : List D} {vs : List V} (h : RepAll K G H vs ds) : RepAll K G H vs.dropLast ds.dropLast := by
  rw [List.dropLast_eq_take, List.dropLast_eq_take, h.length]; exact h.take _
theorem RepAll.eraseIdx : ∀ {ds : List D} {vs : List V} (i : Nat), RepAll K G H vs ds → RepAll K G H (vs.eraseIdx i) (ds.eraseIdx i)
  | [], _, _, h => by cases h; exact rfl
  | _ :: _, _, 0, ⟨x, xs, h1, h2, h3⟩ => by subst h1; exact h3
  | _ :: _, _, i + 1, ⟨x, xs, h1, h2, h3⟩ => by subst h1; exact ⟨x, _, rfl, h2, RepAll.eraseIdx i h3⟩
theorem RepAll.ints : ∀ {ns : List Int} {vs : List V}, RepAll K G H vs (ns.map D.int) → vs = ns.map V.int
  | [], _, h => h
  | n :: ns, _, ⟨x, xs, h1, h2, h3⟩ => by
    have e : x = .int n := h2
    subst h1 e
    rw [RepAll.ints h3]; rfl
theorem RepAll.of_ints : ∀ (ns : List Int), RepAll K G H (ns.map V.int) (ns.map D.int)
  | [] => rfl
  | n :: ns => ⟨.int n, _, rfl, rfl, RepAll.of_ints ns⟩
theorem RepAll.strs : ∀ {ns : List Str} {vs : List V}, RepAll K G H vs (ns.map D.str) → vs = ns.map V.str
  | [], _, h => h
  | n :: ns, _, ⟨x, xs, h1, h2, h3⟩ => by
    have e : x = .str n := h2
    subst h1 e
    rw [RepAll.strs h3]; rfl
theorem RepAll.of_strs : ∀ (ns : List Str), RepAll K G H (ns.map V.str) (ns.map D.str)
  | [] => rfl
  | n :: ns => ⟨.str n, _, rfl, rfl, RepAll.of_strs ns⟩
theorem RepAll.bls : ∀ {ns : List Bool} {vs : List V}, RepAll K G H vs (ns.map D.bl) → vs = ns.map V.bl
  | [], _, h => h
  | n :: ns, _, ⟨x, xs, h1, h2, h3⟩ => by
    have e : x = .bl n := h2
    subst h1 e
    rw [RepAll.bls h3]; rfl

open Classical in
noncomputable def mask (M : List Addr) (H : Hp) : Hp := fun a => if a ∈ M then none else H a
variable {M M' : List Addr}
theorem mask_in {a : Addr} (h : a ∈ M) : mask M H a = none := if_pos h
theorem mask_out {a : Addr} (h : a ∉ M) : mask M H a = H a := if_neg h
theorem mask_some {a : Addr} {o : HO} (h : mask M H a = some o) : a ∉ M ∧ H a = some o := by
  by_cases q : a ∈ M
  · rw [mask_in q] at h; cases h
  · rw [mask_out q] at h; exact ⟨q, h⟩
theorem mask_le : Same (mask M H) H := fun _ _ h => (mask_some h).2
theorem mask_same (h : ∀ b o, b ∉ M → H b = some o → H' b = some o) : Same (mask M H) (mask M H') := fun b o e => by
  obtain ⟨q, e⟩ := mask_some e
  rw [mask_out q]; exact h b o q e
theorem mask_mono (h : Same H H') : Same (mask M H) (mask M H') := mask_same fun b o _ e => h b o e
theorem mask_sub (h : ∀ a ∈ M', a ∈ M) : Same (mask M H) (mask M' H) := fun b o e => by
  obtain ⟨q, e⟩ := mask_some e
  rw [mask_out fun z => q (h b z)]; exact e
theorem mask_upd {p : Addr} {o : HO} (h : p ∈ M) : mask M (upd H p o) = mask M H := by
  funext a
  by_cases q : a ∈ M
  · rw [mask_in q, mask_in q]
  · rw [mask_out q, mask_out q, upd_ne fun z => q (by rw [z]; exact h)]
theorem mask_new {p : Addr} (hp : H p = none) (e : Same H H') : Same (mask M H) (mask (p :: M) H') := fun b o h => by
  obtain ⟨q, h⟩ := mask_some h
  have : b ∉ p :: M := fun z => by
    rcases List.mem_cons.mp z with z | z
    · subst z; rw [hp] at h; cases h
    · exact q z
  rw [mask_out this]; exact e b o h

inductive SV where
  | sh (d : D) | ow (d : D)
structure St3 where
  sl : List (Option SV)
  n : Nat
/-- a list, a dict that may change, at p -/
def OwnAt (K : PySem.W.Frag) (G : Gx) (M : List Addr) (H : Hp) (p : Addr) : D → Prop
  | .lst ds => ∃ xs, H p = some (.lst xs) ∧ RepAll K G (mask M H) xs ds
  | .dct ks ds => ∃ xs, H p = some (.dK (ks.zip xs)) ∧ ks.length = xs.length ∧ RepAll K G (mask M H) xs ds
  | .ins t ds => ∃ dx xs, H p = some (.ins (G.cls t) dx ((G.fld t).zip xs)) ∧ xs.length ≤ (G.fld t).length ∧ RepAll K G (mask M H) xs ds
  | _ => False
theorem OwnAt.al {p : Addr} : ∀ {d : D}, OwnAt K G M H p d → H p ≠ none
  | .lst _, ⟨_, h, _⟩ => by rw [h]; simp
  | .dct _ _, ⟨_, h, _⟩ => by rw [h]; simp
  | .ins _ _, ⟨_, _, h, _⟩ => by rw [h]; simp
theorem OwnAt.to {p : Addr} (hm : Same (mask M H) (mask M' H')) (hp : ∀ o, H p = some o → H' p = some o) : ∀ {d : D}, OwnAt K G M H p d → OwnAt K G M' H' p d
  | .lst _, ⟨xs, h, r⟩ => ⟨xs, hp _ h, r.mono hm⟩
  | .dct _ _, ⟨xs, h, l, r⟩ => ⟨xs, hp _ h, l, r.mono hm⟩
  | .ins _ _, ⟨dx, xs, h, l, r⟩ => ⟨dx, xs, hp _ h, l, r.mono hm⟩
theorem OwnAt.rep {p : Addr} (hm : Same (mask M H) H1) (hp : ∀ o, H p = some o → H1 p = some o) : ∀ {d : D}, OwnAt K G M H p d → Rep K G H1 (.ref p) d
  | .lst _, ⟨xs, h, r⟩ => ⟨p, xs, rfl, hp _ h, r.mono hm⟩
  | .dct _ _, ⟨xs, h, l, r⟩ => ⟨p, xs, rfl, hp _ h, l, r.mono hm⟩
  | .ins _ _, ⟨dx, xs, h, l, r⟩ => ⟨p, dx, xs, rfl, hp _ h, l, r.mono hm⟩
/-- slf: the instance that an __init__ is making (its slot is the first one) -/
structure Ent where
  H0 : Hp
  ads : List Addr
  gh : List (V × D)
  slf : Option Addr := none
def D.isIns : D → Bool
  | .ins _ _ => true
  | _ => false
def isOwn (δ : St3) (i : Nat) : Prop := ∃ d : D, δ.sl[i]? = some (some (SV.ow d))
structure SR (K : PySem.W.Frag) (G : Gx) (E : Ent) (am : Nat → Addr) (M : List Addr) (σ : L2.St) (δ : St3) (H : Hp) : Prop where
  len : σ.length = δ.sl.length
  sh : ∀ (i : Nat) (d : D), δ.sl[i]? = some (some (SV.sh d)) → ∃ v, σ[i]? = some (some v) ∧ Rep K G (mask M H) v d
  ow : ∀ (i : Nat) (d : D), δ.sl[i]? = some (some (SV.ow d)) → σ[i]? = some (some (.ref (am i))) ∧ am i ∈ M ∧ am i ∉ E.ads ∧ E.H0 (am i) = none ∧ OwnAt K G M H (am i) d
  inj : ∀ i j, isOwn δ i → isOwn δ j → am i = am j → i = j
  ads : ∀ a ∈ E.ads, a ∈ M
  dks : ∀ a ∈ G.dk, a ∈ E.ads
  al : ∀ a ∈ M, H a ≠ none
  base : ∀ b o, E.H0 b = some o → b ∉ G.dk → H b = some o
  di : G.DI δ.n H
  gh : ∀ p ∈ E.gh, Rep K G (mask M H) p.1 p.2
  slf : ∀ x, E.slf = some x → ∀ d, δ.sl[0]? = some (some (SV.ow d)) → d.isIns = true → am 0 = x
/-- what an expression's run may change: the deck, the own lists -/
def Ext (G : Gx) (am : Nat → Addr) (δ : St3) (H H' : Hp) : Prop := ∀ b o, H b = some o → b ∉ G.dk → (∀ i, isOwn δ i → am i ≠ b) → H' b = some o
variable {E : Ent} {am : Nat → Addr} {σ : L2.St} {δ δ' δ1 δ2 : St3}
theorem Ext.of (h : Same H H') : Ext G am δ H H' := fun b o e _ _ => h b o e
theorem Ext.refl : Ext G am δ H H := fun _ _ e _ _ => e
theorem Ext.trans (a : Ext G am δ H H1) (o : ∀ i, isOwn δ1 i → isOwn δ i) (b : Ext G am δ1 H1 H2) : Ext G am δ H H2 := fun x u e h1 h2 => b x u (a x u e h1 h2) h1 fun i hi => h2 i (o i hi)
theorem SR.mask (S : SR K G E am M σ δ H) (e : Ext G am δ H H') : Same (mask M H) (mask M H') := mask_same fun b o q h =>
  e b o h (fun z => q (S.ads b (S.dks b z))) fun i ⟨d, hi⟩ z => q (z ▸ (S.ow i d hi).2.1)
theorem SR.grow (S : SR K G E am M σ δ H) (e : Same H H') : SR K G E am M σ δ H' where
  len := S.len
  sh := fun i d h => let ⟨v, a, b⟩ := S.sh i d h; ⟨v, a, b.mono (mask_mono e)⟩
  ow := fun i d h => let ⟨a, b, c, f, g⟩ := S.ow i d h; ⟨a, b, c, f, g.to (mask_mono e) fun o => e _ o⟩
  inj := S.inj
  ads := S.ads
  dks := S.dks
  al := fun a h z => by
    cases q : H a with
    | none => exact S.al a h q
    | some o => rw [e a o q] at z; cases z
  base := fun b o h k => e b o (S.base b o h k)
  di := G.frame _ _ _ (fun a _ o h => e a o h) S.di
  gh := fun p h => (S.gh p h).mono (mask_mono e)
  slf := S.slf
/-- one more thing that is not leant on -/
theorem SR.more {p : Addr} (S : SR K G E am M σ δ H) (hp : H p = none) (e : Same H H') (hn : H' p ≠ none) : SR K G E am (p :: M) σ δ H' where
  len := S.len
  sh := fun i d h => let ⟨v, a, b⟩ := S.sh i d h; ⟨v, a, b.mono (mask_new hp e)⟩
  ow := fun i d h => let ⟨a, b, c, f, g⟩ := S.ow i d h; ⟨a, List.mem_cons_of_mem _ b, c, f, g.to (mask_new hp e) fun o => e _ o⟩
  inj := S.inj
  ads := fun a h => List.mem_cons_of_mem _ (S.ads a h)
  dks := S.dks
  al := fun a h z => by
    rcases List.mem_cons.mp h with h | h
    · subst h; exact hn z
    · cases q : H a with
      | none => exact S.al a h q
      | some o => rw [e a o q] at z; cases z
  base := fun b o h k => e b o (S.base b o h k)
  di := G.frame _ _ _ (fun a _ o h => e a o h) S.di
  gh := fun p h => (S.gh p h).mono (mask_new hp e)
  slf := S.slf
/-- the deck may change -/
theorem SR.after {n : Nat} (S : SR K G E am M σ δ H) (e : ∀ b o, H b = some o → b ∉ G.dk → H' b = some o) (di : G.DI n H') : SR K G E am M σ ⟨δ.sl, n⟩ H' where
  len := S.len
  sh := fun i d h => let ⟨v, a, b⟩ := S.sh i d h; ⟨v, a, b.mono (mask_same fun b o q h => e b o h fun z => q (S.ads b (S.dks b z)))⟩
  ow := fun i d h => let ⟨a, b, c, f, g⟩ := S.ow i d h; ⟨a, b, c, f, g.to (mask_same fun b o q h => e b o h fun z => q (S.ads b (S.dks b z))) fun o h => e _ o h fun z => c (S.dks _ z)⟩
  inj := S.inj
  ads := S.ads
  dks := S.dks
  al := fun a h z => by
    by_cases k : a ∈ G.dk
    · exact G.dal _ _ di a k z
    · cases q : H a with
      | none => exact S.al a h q
      | some o => rw [e a o q k] at z; cases z
  base := fun b o h k => e b o (S.base b o h k) k
  di := di
  gh := fun p h => (S.gh p h).mono (mask_same fun b o q h => e b o h fun z => q (S.ads b (S.dks b z)))
  slf := S.slf
theorem get_set {α : Type} {l : List α} {i j : Nat} {x y : α} (h : (l.set i x)[j]? = some y) : (j = i ∧ y = x) ∨ (j ≠ i ∧ l[j]? = some y) := by
  by_cases e : i = j
  · subst e
    rw [List.getElem?_set_self'] at h
    cases q : l[i]? with
    | none => rw [q] at h; cases h
    | some z => rw [q] at h; exact .inl ⟨rfl, (Option.some.inj h).symm⟩
  · rw [List.getElem?_set_ne e] at h
    exact .inr ⟨fun z => e z.symm, h⟩
theorem set_get {α β : Type} {l : List α} {m : List β} {i : Nat} {x : α} {y : β} {z : β} (hl : l.length = m.length) (h : (m.set i y)[i]? = some z) : (l.set i x)[i]? = some x := by
  have : i < m.length := by
    have := (List.getElem?_eq_some_iff.mp h).1
    rwa [List.length_set] at this
  rw [List.getElem?_set_self (by omega)]
theorem SR.set_sh {i : Nat} (S : SR K G E am M σ δ H) (r : Rep K G (L3.mask M H) v d) : SR K G E am M (σ.set i (some v)) ⟨δ.sl.set i (some (.sh d)), δ.n⟩ H where
  len := by simp [S.len]
  sh := fun j e h => by
    rcases get_set h with ⟨q, z⟩ | ⟨q, z⟩
    · subst q
      injection z with z; injection z with z
      subst z
      exact ⟨v, set_get S.len h, r⟩
    · rw [List.getElem?_set_ne (Ne.symm q)]; exact S.sh j e z
  ow := fun j e h => by
    rcases get_set h with ⟨q, z⟩ | ⟨q, z⟩
    · injection z with z; cases z
    · rw [List.getElem?_set_ne (Ne.symm q)]; exact S.ow j e z
  inj := fun a b ⟨x, ha⟩ ⟨y, hb⟩ => by
    rcases get_set ha with ⟨_, z⟩ | ⟨_, ha⟩
    · injection z with z; cases z
    · rcases get_set hb with ⟨_, z⟩ | ⟨_, hb⟩
      · injection z with z; cases z
      · exact S.inj a b ⟨x, ha⟩ ⟨y, hb⟩
  ads := S.ads
  dks := S.dks
  al := S.al
  base := S.base
  di := S.di
  gh := S.gh
  slf := fun x hx d' h k => by
    rcases get_set h with ⟨_, z⟩ | ⟨_, z⟩
    · first | cases z | (injection z with z; cases z)
    · exact S.slf x hx d' z k
theorem SR.set_none {i : Nat} (S : SR K G E am M σ δ H) : SR K G E am M (σ.set i none) ⟨δ.sl.set i none, δ.n⟩ H where
  len := by simp [S.len]
  sh := fun j e h => by
    rcases get_set h with ⟨q, z⟩ | ⟨q, z⟩
    · cases z
    · rw [List.getElem?_set_ne (Ne.symm q)]; exact S.sh j e z
  ow := fun j e h => by
    rcases get_set h with ⟨q, z⟩ | ⟨q, z⟩
    · cases z
    · rw [List.getElem?_set_ne (Ne.symm q)]; exact S.ow j e z
  inj := fun a b ⟨x, ha⟩ ⟨y, hb⟩ => by
    rcases get_set ha with ⟨_, z⟩ | ⟨_, ha⟩
    · cases z
    · rcases get_set hb with ⟨_, z⟩ | ⟨_, hb⟩
      · cases z
      · exact S.inj a b ⟨x, ha⟩ ⟨y, hb⟩
  ads := S.ads
  dks := S.dks
  al := S.al
  base := S.base
  di := S.di
  gh := S.gh
  slf := fun x hx d' h k => by
    rcases get_set h with ⟨_, z⟩ | ⟨_, z⟩
    · first | cases z | (injection z with z; cases z)
    · exact S.slf x hx d' z k
/-- a slot takes a list that nothing holds (p is among what is not leant on) -/
theorem SR.set_ow {i : Nat} {p : Addr} (S : SR K G E am M σ δ H) (hp : p ∈ M) (ha : p ∉ E.ads) (hm : ∀ (j : Nat) (d : D), δ.sl[j]? = some (some (SV.ow d)) → am j ≠ p) (h0 : E.H0 p = none) (o : OwnAt K G M H p d) (nins : d.isIns = false) :
    SR K G E (fun j => if j = i then p else am j) M (σ.set i (some (.ref p))) ⟨δ.sl.set i (some (.ow d)), δ.n⟩ H where
  len := by simp [S.len]
  sh := fun j e h => by
    rcases get_set h with ⟨q, z⟩ | ⟨q, z⟩
    · injection z with z; cases z
    · rw [List.getElem?_set_ne (Ne.symm q)]; exact S.sh j e z
  ow := fun j e h => by
    rcases get_set h with ⟨q, z⟩ | ⟨q, z⟩
    · subst q
      injection z with z; injection z with z
      subst z
      rw [if_pos rfl]
      exact ⟨set_get S.len h, hp, ha, h0, o⟩
    · rw [List.getElem?_set_ne (Ne.symm q), if_neg q]; exact S.ow j e z
  inj := fun a b ⟨x, hA⟩ ⟨y, hB⟩ e => by
    rcases get_set hA with ⟨q1, z⟩ | ⟨q1, hA⟩
    · rcases get_set hB with ⟨q2, z⟩ | ⟨q2, hB⟩
      · exact q1.trans q2.symm
      · rw [if_pos q1, if_neg q2] at e
        exact absurd e.symm (hm b y hB)
    · rcases get_set hB with ⟨q2, z⟩ | ⟨q2, hB⟩
      · rw [if_neg q1, if_pos q2] at e
        exact absurd e (hm a x hA)
      · rw [if_neg q1, if_neg q2] at e
        exact S.inj a b ⟨x, hA⟩ ⟨y, hB⟩ e
  ads := S.ads
  dks := S.dks
  al := S.al
  base := S.base
  di := S.di
  gh := S.gh
  slf := fun x hx d' h k => by
    rcases get_set h with ⟨_, z⟩ | ⟨q, z⟩
    · injection z with z
      injection z with z
      subst z
      rw [nins] at k
      cases k
    · rw [if_neg q]; exact S.slf x hx d' z k
/-- leant on again -/
theorem SR.less (S : SR K G E am M σ δ H) (hs : ∀ a ∈ M', a ∈ M) (ha : ∀ a ∈ E.ads, a ∈ M') (hm : ∀ (j : Nat) (d : D), δ.sl[j]? = some (some (SV.ow d)) → am j ∈ M') : SR K G E am M' σ δ H where
  len := S.len
  sh := fun j e h => let ⟨v, a, b⟩ := S.sh j e h; ⟨v, a, b.mono (mask_sub hs)⟩
  ow := fun j e h => let ⟨a, b, c, f, g⟩ := S.ow j e h; ⟨a, hm j e h, c, f, g.to (mask_sub hs) fun o e => e⟩
  inj := S.inj
  ads := ha
  dks := S.dks
  al := fun a h => S.al a (hs a h)
  base := S.base
  di := S.di
  gh := fun p h => (S.gh p h).mono (mask_sub hs)
  slf := S.slf
theorem SR.ungh {l l' : List (V × D)} {H0 : Hp} {ads : List Addr} {sf : Option Addr} (S : SR K G ⟨H0, ads, l, sf⟩ am M σ δ H) (h : ∀ p ∈ l', p ∈ l) : SR K G ⟨H0, ads, l', sf⟩ am M σ δ H :=
  ⟨S.len, S.sh, S.ow, S.inj, S.ads, S.dks, S.al, S.base, S.di, fun p hp => S.gh p (h p hp), S.slf⟩
theorem SR.addgh {l : List (V × D)} {H0 : Hp} {ads : List Addr} {sf : Option Addr} (S : SR K G ⟨H0, ads, l, sf⟩ am M σ δ H) (l' : List (V × D)) (h : ∀ p ∈ l', Rep K G (L3.mask M H) p.1 p.2) : SR K G ⟨H0, ads, l' ++ l, sf⟩ am M σ δ H :=
  ⟨S.len, S.sh, S.ow, S.inj, S.ads, S.dks, S.al, S.base, S.di, fun p hp => (List.mem_append.mp hp).elim (h p) (S.gh p), S.slf⟩
/-- an own list changes -/
theorem SR.mut {i : Nat} {o : HO} {d' : D} (S : SR K G E am M σ δ H) (h : δ.sl[i]? = some (some (.ow d))) (ho : OwnAt K G M (upd H (am i) o) (am i) d') (hi : d'.isIns = d.isIns) : SR K G E am M σ ⟨δ.sl.set i (some (.ow d')), δ.n⟩ (upd H (am i) o) := by
  obtain ⟨h1, h2, h3, h4, h5⟩ := S.ow i d h
  refine ⟨by simp [S.len], fun j e hj => ?_, fun j e hj => ?_, fun a b ⟨x, ha⟩ ⟨y, hb⟩ e => ?_, S.ads, S.dks, fun a ha => ?_, fun b u hb k => ?_, ?_, fun p hp => by rw [mask_upd h2]; exact S.gh p hp, fun x hx e hj k => ?_⟩
  · rcases get_set hj with ⟨q, z⟩ | ⟨q, z⟩
    · injection z with z; cases z
    · rw [mask_upd h2]; exact S.sh j e z
  · rcases get_set hj with ⟨q, z⟩ | ⟨q, z⟩
    · subst q
      injection z with z; injection z with z
      subst z
      exact ⟨h1, h2, h3, h4, ho⟩
    · obtain ⟨a, b, c, f, g⟩ := S.ow j e z
      have ne : am j ≠ am i := fun w => q (S.inj j i ⟨_, z⟩ ⟨_, h⟩ w)
      refine ⟨a, b, c, f, g.to (by rw [mask_upd h2]; exact Same.refl _) fun o e => ?_⟩
      rw [upd_ne ne]; exact e
  · have w : ∀ k, isOwn ⟨δ.sl.set i (some (.ow d')), δ.n⟩ k → isOwn δ k := fun k ⟨x, hk⟩ => by
      rcases get_set hk with ⟨q, z⟩ | ⟨q, z⟩
      · subst q; exact ⟨_, h⟩
      · exact ⟨_, z⟩
    exact S.inj a b (w a ⟨x, ha⟩) (w b ⟨y, hb⟩) e
  · by_cases q : a = am i
    · subst q; rw [upd_same]; simp
    · rw [upd_ne q]; exact S.al a ha
  · have ne : b ≠ am i := fun z => by subst z; rw [h4] at hb; cases hb
    rw [upd_ne ne]; exact S.base b u hb k
  · refine G.frame _ _ _ (fun a ha u e => ?_) S.di
    have ne : a ≠ am i := fun z => h3 (z ▸ S.dks a ha)
    rw [upd_ne ne]; exact e
  · rcases get_set hj with ⟨q, z⟩ | ⟨_, z⟩
    · subst q
      injection z with z
      injection z with z
      subst z
      exact S.slf x hx d h (hi ▸ k)
    · exact S.slf x hx e z k
/-- leant on again: an own list is given away -/
theorem SR.free {i : Nat} (S : SR K G E am M σ δ H) (h : δ.sl[i]? = some (some (.ow d))) : ∃ M', (∀ a ∈ M', a ∈ M) ∧ SR K G E am M' σ ⟨δ.sl.set i (some (.sh d)), δ.n⟩ H := by
  obtain ⟨h1, h2, h3, h4, h5⟩ := S.ow i d h
  classical
  have sub : ∀ a ∈ M.filter (fun a => decide (a ≠ am i)), a ∈ M := fun a ha => (List.mem_filter.mp ha).1
  have ins : ∀ a ∈ M, a ≠ am i → a ∈ M.filter (fun a => decide (a ≠ am i)) := fun a ha q => List.mem_filter.mpr ⟨ha, decide_eq_true q⟩
  have le : Same (L3.mask M H) (L3.mask (M.filter fun a => decide (a ≠ am i)) H) := mask_sub sub
  have out : am i ∉ M.filter (fun a => decide (a ≠ am i)) := fun z => of_decide_eq_true (List.mem_filter.mp z).2 rfl
  have own : ∀ k, isOwn ⟨δ.sl.set i (some (.sh d)), δ.n⟩ k → isOwn δ k := fun k ⟨x, hk⟩ => by
    rcases get_set hk with ⟨q, z⟩ | ⟨q, z⟩
    · injection z with z; cases z
    · exact ⟨_, z⟩
  refine ⟨M.filter fun a => decide (a ≠ am i), sub, by simp [S.len], fun j e hj => ?_, fun j e hj => ?_, fun a b ha hb e => S.inj a b (own a ha) (own b hb) e, fun a ha => ?_, S.dks, fun a ha => S.al a (sub a ha), S.base, S.di, fun p hp => (S.gh p hp).mono le, fun x hx e hj k => ?_⟩
  · rcases get_set hj with ⟨q, z⟩ | ⟨q, z⟩
    · subst q
      injection z with z; injection z with z
      subst z
      refine ⟨_, h1, h5.rep le fun o e => ?_⟩
      rw [mask_out out]; exact e
    · obtain ⟨v, a, b⟩ := S.sh j e z
      exact ⟨v, a, b.mono le⟩
  · rcases get_set hj with ⟨q, z⟩ | ⟨q, z⟩
    · injection z with z; cases z
    · obtain ⟨a, b, c, f, g⟩ := S.ow j e z
      have ne : am j ≠ am i := fun w => q (S.inj j i ⟨_, z⟩ ⟨_, h⟩ w)
      exact ⟨a, ins _ b ne, c, f, g.to le fun o e => e⟩
  · exact ins a (S.ads a ha) fun z => h3 (z ▸ ha)
  · rcases get_set hj with ⟨_, z⟩ | ⟨_, z⟩
    · injection z with z; cases z
    · exact S.slf x hx e z k
end L3
namespace L3
open PySem L2
/-- a value that may be kept; a new list (dict) that nothing holds; an own one that is only looked at -/
inductive RD where
  | sh (d : D) | fr (d : D) | bo (d : D)
def RD.d : RD → D
  | .sh d => d
  | .fr d => d
  | .bo d => d
@[simp] theorem RD.d_0  (d : D) : RD.d (RD.sh d) = (d) := rfl
@[simp] theorem RD.d_1  (d : D) : RD.d (RD.fr d) = (d) := rfl
@[simp] theorem RD.d_2  (d : D) : RD.d (RD.bo d) = (d) := rfl
def RD.bor : RD → Prop
  | .bo _ => True
  | _ => False
@[simp] theorem RD.bor_0 (d : D) : RD.bor (RD.bo d) = True := rfl
@[simp] theorem RD.bor_sh (d : D) : RD.bor (.sh d) = False := rfl
@[simp] theorem RD.bor_fr (d : D) : RD.bor (.fr d) = False := rfl
abbrev WE := St3 → (RD → St3 → Prop) → Prop
abbrev WT := St3 → (Bool → St3 → Prop) → Prop
abbrev WA := St3 → (List RD → St3 → Prop) → Prop
structure Ends3 where
  nx : St3 → Prop
  rt : D → Nat → Prop
  bk : St3 → Prop
  ct : St3 → Prop
abbrev WS := Ends3 → St3 → Prop
section
variable {K : PySem.W.Frag} {G : Gx} {H H' H1 H2 H3 : Hp} {v x y : V} {d e : D} {M M' : List Addr} {E : Ent} {am : Nat → Addr} {σ : L2.St} {δ δ' δ1 δ2 δ3 : St3}
/-- readable now -/
def RB (K : PySem.W.Frag) (G : Gx) (M : List Addr) (H : Hp) (v : V) (d : D) : Prop := Rep K G (mask M H) v d ∨ ∃ p, v = .ref p ∧ OwnAt K G M H p d
theorem RB.full (h : RB K G M H v d) : Rep K G H v d := by
  rcases h with h | ⟨p, rfl, h⟩
  · exact h.mono mask_le
  · exact h.rep mask_le fun _ e => e
theorem RB.lst {ds : List D} (h : RB K G M H v (.lst ds)) : ∃ p xs, v = .ref p ∧ H p = some (.lst xs) ∧ RepAll K G (mask M H) xs ds := by
  rcases h with ⟨p, xs, e, q, r⟩ | ⟨p, e, xs, q, r⟩
  · exact ⟨p, xs, e, mask_le _ _ q, r⟩
  · exact ⟨p, xs, e, q, r⟩
theorem RB.tup {ds : List D} (h : RB K G M H v (.tup ds)) : ∃ p xs, v = .ref p ∧ SqT K H p xs ∧ RepAll K G (mask M H) xs ds := by
  rcases h with ⟨p, xs, e, q, r⟩ | ⟨p, e, q⟩
  · exact ⟨p, xs, e, same_t mask_le q, r⟩
  · exact q.elim
theorem RB.dct {ks : List Key} {ds : List D} (h : RB K G M H v (.dct ks ds)) : ∃ p xs, v = .ref p ∧ H p = some (.dK (ks.zip xs)) ∧ ks.length = xs.length ∧ RepAll K G (mask M H) xs ds := by
  rcases h with ⟨p, xs, e, q, l, r⟩ | ⟨p, e, xs, q, l, r⟩
  · exact ⟨p, xs, e, mask_le _ _ q, l, r⟩
  · exact ⟨p, xs, e, q, l, r⟩
theorem RB.int {i : Int} (h : RB K G M H v (.int i)) : v = .int i := h.full
theorem RB.bl {i : Bool} (h : RB K G M H v (.bl i)) : v = .bl i := h.full
theorem RB.str {i : Str} (h : RB K G M H v (.str i)) : v = .str i := h.full
theorem RB.non (h : RB K G M H v .non) : v = .non := h.full
/-- a result that is kept through what follows -/
def RK (K : PySem.W.Frag) (G : Gx) (am : Nat → Addr) (M : List Addr) (δ : St3) (H : Hp) (v : V) : RD → Prop
  | .sh d => Rep K G (mask M H) v d
  | .fr d => Rep K G (mask M H) v d
  | .bo d => ∃ i : Nat, δ.sl[i]? = some (some (SV.ow d)) ∧ v = .ref (am i)
def RV (K : PySem.W.Frag) (G : Gx) (E : Ent) (am : Nat → Addr) (M : List Addr) (σ : L2.St) (δ : St3) (H : Hp) (v : V) : RD → Prop
  | .sh d => Rep K G (mask M H) v d
  | .fr d => ∃ p, v = .ref p ∧ p ∉ M ∧ E.H0 p = none ∧ OwnAt K G (p :: M) H p d ∧ SR K G E am (p :: M) σ δ H
  | .bo d => ∃ i : Nat, δ.sl[i]? = some (some (SV.ow d)) ∧ v = .ref (am i)
theorem RV.k {r : RD} (h : RV K G E am M σ δ H v r) : RK K G am M δ H v r := by
  cases r with
  | sh d => exact h
  | fr d =>
    obtain ⟨p, rfl, hp, _, o, _⟩ := h
    exact o.rep (mask_sub fun a h => List.mem_cons_of_mem _ h) fun o e => by rw [mask_out hp]; exact e
  | bo d => exact h
theorem RK.rb {r : RD} (S : SR K G E am M σ δ H) (h : RK K G am M δ H v r) : RB K G M H v r.d := by
  cases r with
  | sh d => exact .inl h
  | fr d => exact .inl h
  | bo d => obtain ⟨i, h1, rfl⟩ := h; exact .inr ⟨_, rfl, (S.ow i d h1).2.2.2.2⟩
theorem RK.rep {r : RD} (h : RK K G am M δ H v r) (k : ¬ r.bor) : Rep K G (mask M H) v r.d := by
  cases r with
  | sh d => exact h
  | fr d => exact h
  | bo d => exact (k trivial).elim
theorem RK.later {r : RD} (S : SR K G E am M σ δ1 H1) (h : RK K G am M δ1 H1 v r) (e : Ext G am δ1 H1 H2) (k : r.bor → δ2.sl = δ1.sl) : RK K G am M δ2 H2 v r := by
  cases r with
  | sh d => exact Rep.mono (S.mask e) d h
  | fr d => exact Rep.mono (S.mask e) d h
  | bo d => obtain ⟨i, h1, e1⟩ := h; exact ⟨i, by rw [k trivial]; exact h1, e1⟩
/-- a new value, by an operation that only lays new things -/
def RN (K : PySem.W.Frag) (G : Gx) (M : List Addr) (H H' : Hp) (v : V) : RD → Prop
  | .sh d => Rep K G (mask M H') v d
  | .fr d => ∃ p, v = .ref p ∧ H p = none ∧ OwnAt K G (p :: M) H' p d
  | .bo _ => False
theorem RN.rv {r : RD} (S : SR K G E am M σ δ H) (e : Same H H') (h : RN K G M H H' v r) : RV K G E am M σ δ H' v r := by
  cases r with
  | sh d => exact h
  | bo d => exact h.elim
  | fr d =>
    obtain ⟨p, rfl, hp, o⟩ := h
    refine ⟨p, rfl, fun z => S.al p z hp, ?_, o, S.more hp e o.al⟩
    cases q : E.H0 p with
    | none => rfl
    | some u =>
      by_cases k : p ∈ G.dk
      · exact (S.al p (S.ads p (S.dks p k)) hp).elim
      · rw [S.base p u q k] at hp; cases hp
end

def SimE (K : PySem.W.Frag) (G : Gx) (E : Ent) (te : TE) (w : WE) : Prop := ∀ (am : Nat → Addr) (M : List Addr) (σ : L2.St) (δ : St3) (H : Hp), SR K G E am M σ δ H → ∀ Qd : RD → St3 → Prop, w δ Qd → ∀ Q : VK,
  (∀ (v : V) (r : RD) (δ' : St3) (H' : Hp), SR K G E am M σ δ' H' → Ext G am δ H H' → (∀ i, isOwn δ' i → isOwn δ i) → RV K G E am M σ δ' H' v r → Qd r δ' → Q v H') → te σ H Q
def SimT (K : PySem.W.Frag) (G : Gx) (E : Ent) (tt : TT) (w : WT) : Prop := ∀ (am : Nat → Addr) (M : List Addr) (σ : L2.St) (δ : St3) (H : Hp), SR K G E am M σ δ H → ∀ Qd : Bool → St3 → Prop, w δ Qd → ∀ Q : Bool → Hp → Prop,
  (∀ (b : Bool) (δ' : St3) (H' : Hp), SR K G E am M σ δ' H' → Ext G am δ H H' → (∀ i, isOwn δ' i → isOwn δ i) → Qd b δ' → Q b H') → tt σ H Q
inductive RKs (K : PySem.W.Frag) (G : Gx) (am : Nat → Addr) (M : List Addr) (δ : St3) (H : Hp) : List V → List RD → Prop
  | nil : RKs K G am M δ H [] []
  | cons {v : V} {vs : List V} {r : RD} {rs : List RD} : RK K G am M δ H v r → RKs K G am M δ H vs rs → RKs K G am M δ H (v :: vs) (r :: rs)
def SimA (K : PySem.W.Frag) (G : Gx) (E : Ent) (ta : TA) (w : WA) : Prop := ∀ (am : Nat → Addr) (M : List Addr) (σ : L2.St) (δ : St3) (H : Hp), SR K G E am M σ δ H → ∀ Qd : List RD → St3 → Prop, w δ Qd → ∀ Q : List V → Hp → Prop,
  (∀ (vs : List V) (rs : List RD) (δ' : St3) (H' : Hp), SR K G E am M σ δ' H' → Ext G am δ H H' → (∀ i, isOwn δ' i → isOwn δ i) → RKs K G am M δ' H' vs rs → Qd rs δ' → Q vs H') → ta σ H Q
structure EndsR (K : PySem.W.Frag) (G : Gx) (E : Ent) (D3 : Ends3) (De : L2.Ends) : Prop where
  nx : ∀ (am : Nat → Addr) (M : List Addr) (σ : L2.St) (δ : St3) (H : Hp), SR K G E am M σ δ H → D3.nx δ → De.nx σ H
  bk : ∀ (am : Nat → Addr) (M : List Addr) (σ : L2.St) (δ : St3) (H : Hp), SR K G E am M σ δ H → D3.bk δ → De.bk σ H
  ct : ∀ (am : Nat → Addr) (M : List Addr) (σ : L2.St) (δ : St3) (H : Hp), SR K G E am M σ δ H → D3.ct δ → De.ct σ H
  rt : ∀ (v : V) (d : D) (n : Nat) (H : Hp), Rep K G (mask E.ads H) v d → (∀ b o, E.H0 b = some o → b ∉ G.dk → H b = some o) → G.DI n H → D3.rt d n → De.rt v H
def SimS (K : PySem.W.Frag) (G : Gx) (ts : TS) (w : WS) : Prop := ∀ (E : Ent) (am : Nat → Addr) (M : List Addr) (σ : L2.St) (δ : St3) (H : Hp), SR K G E am M σ δ H → ∀ D3 : Ends3, w D3 δ → ∀ De : L2.Ends, EndsR K G E D3 De → ts De σ H
structure DE (X : Cx) (G : Gx) (e : Expr) (te : TE) (w : WE) : Prop where
  pe : PE X e te
  sim : ∀ E, SimE X.K G E te w
structure DT (X : Cx) (G : Gx) (e : Expr) (tt : TT) (w : WT) : Prop where
  pt : PT X e tt
  sim : ∀ E, SimT X.K G E tt w
structure DW (X : Cx) (G : Gx) (e : Expr) (tt : TT) (w : WT) : Prop where
  pw : PW X e tt
  sim : ∀ E, SimT X.K G E tt w
structure DA (X : Cx) (G : Gx) (es : List Expr) (ta : TA) (w : WA) : Prop where
  pa : PA X es ta
  sim : ∀ E, SimA X.K G E ta w
structure DS (X : Cx) (G : Gx) (st : Stmt) (ts : TS) (w : WS) : Prop where
  ps : PS X st ts
  sim : SimS X.K G ts w
structure DSs (X : Cx) (G : Gx) (st : List Stmt) (ts : TS) (w : WS) : Prop where
  ps : PSs X st ts
  sim : SimS X.K G ts w

def svRD : SV → RD
  | .sh d => .sh d
  | .ow d => .bo d
@[simp] theorem svRD_0  (d : D) : svRD (.sh d) = (.sh d) := rfl
@[simp] theorem svRD_1  (d : D) : svRD (.ow d) = (.bo d) := rfl
@[simp] def wVar (i : Nat) : WE := fun δ Q => ∃ s, δ.sl[i]? = some (some s) ∧ Q (svRD s) δ
@[simp] def wC (d : D) : WE := fun δ Q => Q (.sh d) δ
section
variable {X : Cx} {G : Gx} {K : PySem.W.Frag} {E : Ent}
theorem sim_var {i : Nat} : SimE K G E (tVar i) (wVar i) := fun am M σ δ H S Qd h Q k => by
  obtain ⟨s, hs, h⟩ := h
  cases s with
  | sh d =>
    obtain ⟨v, e, r⟩ := S.sh i d hs
    exact ⟨v, e, k v (.sh d) δ H S .refl (fun _ z => z) r h⟩
  | ow d =>
    have e := (S.ow i d hs).1
    exact ⟨_, e, k _ (.bo d) δ H S .refl (fun _ z => z) ⟨i, hs, rfl⟩ h⟩
theorem de_var (i : Nat) {x : Str} {pos : Pos} (hN : X.N[i]? = some x := by rfl) (hv : Vis X.env.scope x := by first | exact Or.inl rfl | exact Or.inr (Or.inl rfl) | exact Or.inr (Or.inr rfl)) (hd : (x == ("__debug__" : Str)) = false := by decide)
    (hcd : (x == ("__classdict__" : Str)) = false := by decide) : DE X G (.Name x pos) (tVar i) (wVar i) := ⟨pe_var hN hv hd hcd, fun _ => sim_var⟩
theorem sim_c {v : V} {d : D} (h : ∀ H, Rep K G H v d) : SimE K G E (tC v) (wC d) := fun am M σ δ H S Qd q Q k => k v (.sh d) δ H S .refl (fun _ z => z) (h _) q
theorem de_int {i j pos} : DE X G (.Constant (.int i) j pos) (tC (.int i)) (wC (.int i)) := ⟨pe_int, fun _ => sim_c fun _ => rfl⟩
theorem de_bl {b j pos} : DE X G (.Constant (.bool b) j pos) (tC (.bl b)) (wC (.bl b)) := ⟨pe_bl, fun _ => sim_c fun _ => rfl⟩
theorem de_non {j pos} : DE X G (.Constant .none j pos) (tC .non) (wC .non) := ⟨pe_non, fun _ => sim_c fun _ => rfl⟩
theorem de_str {x j pos} : DE X G (.Constant (.str x) j pos) (tC (.str x)) (wC (.str x)) := ⟨pe_str, fun _ => sim_c fun _ => rfl⟩
end

abbrev F2 := D → D → (RD → Prop) → Prop
def OpS (K : PySem.W.Frag) (G : Gx) (r : R2) (f : F2) : Prop := ∀ (M : List Addr) (H : Hp) (x y : V) (d e : D), (∀ a ∈ M, H a ≠ none) → RB K G M H x d → RB K G M H y e → ∀ Qd : RD → Prop, f d e Qd → ∀ Q : VK,
  (∀ v q H', Same H H' → RN K G M H H' v q → Qd q → Q v H') → r x y H Q
@[simp] def wOp (f : F2) (a b : WE) : WE := fun δ Q => a δ fun x δ1 => b δ1 fun y δ2 => (x.bor → δ2.sl = δ1.sl) ∧ f x.d y.d fun q => Q q δ2
section
variable {X : Cx} {G : Gx} {K : PySem.W.Frag} {E : Ent} {a b c : Expr} {ta tb tc : TE} {wa wb wc : WE} {pos : Pos} {r r' : R2} {f f' : F2}
theorem sim_op (hs : OpS K G r f) (ha : SimE K G E ta wa) (hb : SimE K G E tb wb) : SimE K G E (tOp r ta tb) (wOp f wa wb) := fun am M σ δ H S Qd h Q k => by
  refine ha am M σ δ H S _ h _ fun x rx δ1 H1 S1 e1 o1 v1 h => ?_
  refine hb am M σ δ1 H1 S1 _ h _ fun y ry δ2 H2 S2 e2 o2 v2 h => ?_
  obtain ⟨st, h⟩ := h
  have bx := (v1.k.later S1 e2 st).rb S2
  refine hs M H2 x y _ _ S2.al bx (v2.k.rb S2) _ h _ fun v q H3 sm rn hq => ?_
  exact k v q δ2 H3 (S2.grow sm) ((e1.trans o1 e2).trans (fun i z => o1 i (o2 i z)) (Ext.of (δ := δ2) sm)) (fun i z => o1 i (o2 i z)) (rn.rv S2 sm) hq
theorem de_op {op : Operator} (ho : OpR X (binaryOp op) r) (hs : OpS X.K G r f) (ha : DE X G a ta wa) (hb : DE X G b tb wb) : DE X G (.BinOp a op b pos) (tOp r ta tb) (wOp f wa wb) := ⟨pe_op ho ha.pe hb.pe, fun E => sim_op hs (ha.sim E) (hb.sim E)⟩
theorem de_cmp {op : CmpOp} (ho : OpR X (compareOp op) r) (hs : OpS X.K G r f) (ha : DE X G a ta wa) (hb : DE X G b tb wb) (hm : behindInMarks op b = false := by first | exact nomark _ | rfl) : DE X G (.Compare a [op] [b] pos) (tOp r ta tb) (wOp f wa wb) :=
  ⟨pe_cmpR ho ha.pe hb.pe hm, fun E => sim_op hs (ha.sim E) (hb.sim E)⟩
def wTest (w : WE) : WT := fun δ Q => w δ fun r δ1 => ∃ k, r.d = .bl k ∧ Q k δ1
theorem rv_bl {am : Nat → Addr} {M : List Addr} {σ : L2.St} {δ : St3} {H : Hp} {v : V} {q : RD} {k : Bool} (S : SR K G E am M σ δ H) (h : RV K G E am M σ δ H v q) (e : q.d = .bl k) : v = .bl k := by
  have := h.k.rb S
  rw [e] at this
  exact this.bl
theorem sim_test {te : TE} {w : WE} (h : SimE K G E te w) : SimT K G E (tTest te) (wTest w) := fun am M σ δ H S Qd q Q k =>
  h am M σ δ H S _ q _ fun v r δ' H' S' e o rv ⟨b, e1, hq⟩ => ⟨b, rv_bl S' rv e1, k b δ' H' S' e o hq⟩
theorem dt_cmp {op : CmpOp} (ho : OpR X (compareOp op) r) (hs : OpS X.K G r f) (ha : DE X G a ta wa) (hb : DE X G b tb wb) (hm : behindInMarks op b = false := by first | exact nomark _ | rfl) : DT X G (.Compare a [op] [b] pos) (tTest (tOp r ta tb)) (wTest (wOp f wa wb)) :=
  ⟨pt_cmpR ho ha.pe hb.pe hm, fun E => sim_test (sim_op hs (ha.sim E) (hb.sim E))⟩
theorem dt_val {e : Expr} {t : TE} {w : WE} (h : DE X G e t w) (he : ∀ whole, isTrue e X.env whole = (do let v ← whole; standAt e.pos; holding [v] (truthy v)) := by intro _; rfl) : DT X G e (tB t) (wTest w) := ⟨pt_val h.pe he, fun E => sim_test (h.sim E)⟩
/-- a < b < c -/
def wChain (f f' : F2) (a b c : WE) : WE := fun δ Q => a δ fun x δ1 => b δ1 fun y δ2 => (x.bor → δ2.sl = δ1.sl) ∧ f x.d y.d fun q => ∃ k, q.d = .bl k ∧ (k = true → c δ2 fun z δ3 => (y.bor → δ3.sl = δ2.sl) ∧ f' y.d z.d fun q' => Q q' δ3) ∧ (k = false → Q (.sh (.bl false)) δ2)
theorem sim_chain (hs : OpS K G r f) (hs' : OpS K G r' f') (ha : SimE K G E ta wa) (hb : SimE K G E tb wb) (hc : SimE K G E tc wc) : SimE K G E (tChain r r' ta tb tc) (wChain f f' wa wb wc) := fun am M σ δ H S Qd h Q k => by
  refine ha am M σ δ H S _ h _ fun x rx δ1 H1 S1 e1 o1 v1 h => ?_
  refine hb am M σ δ1 H1 S1 _ h _ fun y ry δ2 H2 S2 e2 o2 v2 h => ?_
  obtain ⟨st, h⟩ := h
  refine hs M H2 x y _ _ S2.al ((v1.k.later S1 e2 st).rb S2) (v2.k.rb S2) _ h _ fun v q H3 sm rn hq => ?_
  obtain ⟨b, e, hq⟩ := hq
  have S3 := S2.grow sm
  have ee : Ext G am δ H H3 := (e1.trans o1 e2).trans (fun i z => o1 i (o2 i z)) (Ext.of (δ := δ2) sm)
  have oo : ∀ i, isOwn δ2 i → isOwn δ i := fun i z => o1 i (o2 i z)
  refine ⟨b, rv_bl S3 (rn.rv S2 sm) e, ?_⟩
  cases b with
  | false =>
    rw [if_neg Bool.false_ne_true]
    exact k _ (.sh (.bl false)) δ2 H3 S3 ee oo rfl (hq.2 rfl)
  | true =>
    rw [if_pos rfl]
    refine hc am M σ δ2 H3 S3 _ (hq.1 rfl) _ fun z rz δ3 H4 S4 e4 o4 v4 h => ?_
    obtain ⟨st', h⟩ := h
    have vy : RK K G am M δ2 H3 y ry := v2.k.later S2 (Ext.of sm) fun _ => rfl
    refine hs' M H4 y z _ _ S4.al ((vy.later S3 e4 st').rb S4) (v4.k.rb S4) _ h _ fun v q H5 sm5 rn5 hq5 => ?_
    exact k v q δ3 H5 (S4.grow sm5) ((ee.trans oo e4).trans (fun i z => oo i (o4 i z)) (Ext.of (δ := δ3) sm5)) (fun i z => oo i (o4 i z)) (rn5.rv S4 sm5) hq5
theorem de_chain {op op' : CmpOp} (ho : OpR X (compareOp op) r) (hs : OpS X.K G r f) (ho' : OpR X (compareOp op') r') (hs' : OpS X.K G r' f') (ha : DE X G a ta wa) (hb : DE X G b tb wb) (hc : DE X G c tc wc)
    (hm : lastMarks [op, op'] [b, c] = false := by with_unfolding_all rfl) : DE X G (.Compare a [op, op'] [b, c] pos) (tChain r r' ta tb tc) (wChain f f' wa wb wc) := ⟨pe_chain ho ho' ha.pe hb.pe hc.pe hm, fun E => sim_chain hs hs' (ha.sim E) (hb.sim E) (hc.sim E)⟩
theorem dt_chain {op op' : CmpOp} (ho : OpR X (compareOp op) r) (hs : OpS X.K G r f) (ho' : OpR X (compareOp op') r') (hs' : OpS X.K G r' f') (ha : DE X G a ta wa) (hb : DE X G b tb wb) (hc : DE X G c tc wc)
    (hm : lastMarks [op, op'] [b, c] = false := by with_unfolding_all rfl) : DT X G (.Compare a [op, op'] [b, c] pos) (tTest (tChain r r' ta tb tc)) (wTest (wChain f f' wa wb wc)) := ⟨pt_chain ho ho' ha.pe hb.pe hc.pe hm, fun E => sim_test (sim_chain hs hs' (ha.sim E) (hb.sim E) (hc.sim E))⟩

abbrev F1 := D → (RD → Prop) → Prop
def UnS (K : PySem.W.Frag) (G : Gx) (r : V → Hp → VK → Prop) (f : F1) : Prop := ∀ (M : List Addr) (H : Hp) (x : V) (d : D), (∀ a ∈ M, H a ≠ none) → RB K G M H x d → ∀ Qd : RD → Prop, f d Qd → ∀ Q : VK,
  (∀ v q H', Same H H' → RN K G M H H' v q → Qd q → Q v H') → r x H Q
@[simp] def wUn (f : F1) (a : WE) : WE := fun δ Q => a δ fun x δ1 => f x.d fun q => Q q δ1
theorem sim_un {ru : V → Hp → VK → Prop} {fu : F1} (hs : UnS K G ru fu) (ha : SimE K G E ta wa) : SimE K G E (tUn ru ta) (wUn fu wa) := fun am M σ δ H S Qd h Q k => by
  refine ha am M σ δ H S _ h _ fun x rx δ1 H1 S1 e1 o1 v1 h => ?_
  exact hs M H1 x _ S1.al (v1.k.rb S1) _ h _ fun v q H3 sm rn hq => k v q δ1 H3 (S1.grow sm) (e1.trans o1 (Ext.of (δ := δ1) sm)) o1 (rn.rv S1 sm) hq
theorem de_un {op : UnaryOp} {ru : V → Hp → VK → Prop} {fu : F1} (ho : UnR X (unaryOp op) ru) (hs : UnS X.K G ru fu) (ha : DE X G a ta wa) : DE X G (.UnaryOp op a pos) (tUn ru ta) (wUn fu wa) := ⟨pe_un ho ha.pe, fun E => sim_un hs (ha.sim E)⟩
variable {t u : TT} {wt wu : WT} {rest : List Expr}
@[simp] def wAnd (t u : WT) : WT := fun δ Q => t δ fun b δ1 => (b = true → u δ1 Q) ∧ (b = false → Q false δ1)
@[simp] def wOr (t u : WT) : WT := fun δ Q => t δ fun b δ1 => (b = false → u δ1 Q) ∧ (b = true → Q true δ1)
@[simp] def wNot (t : WT) : WT := fun δ Q => t δ fun b δ1 => Q (!b) δ1
theorem sim_and (h1 : SimT K G E t wt) (h2 : SimT K G E u wu) : SimT K G E (tAnd t u) (wAnd wt wu) := fun am M σ δ H S Qd h Q k => by
  refine h1 am M σ δ H S _ h _ fun b δ1 H1 S1 e1 o1 h => ?_
  cases b with
  | true =>
    rw [if_pos rfl]
    exact h2 am M σ δ1 H1 S1 _ (h.1 rfl) _ fun b δ2 H2 S2 e2 o2 h => k b δ2 H2 S2 (e1.trans o1 e2) (fun i z => o1 i (o2 i z)) h
  | false =>
    rw [if_neg Bool.false_ne_true]
    exact k _ δ1 H1 S1 e1 o1 (h.2 rfl)
theorem sim_or (h1 : SimT K G E t wt) (h2 : SimT K G E u wu) : SimT K G E (tOr t u) (wOr wt wu) := fun am M σ δ H S Qd h Q k => by
  refine h1 am M σ δ H S _ h _ fun b δ1 H1 S1 e1 o1 h => ?_
  cases b with
  | false =>
    rw [if_neg Bool.false_ne_true]
    exact h2 am M σ δ1 H1 S1 _ (h.1 rfl) _ fun b δ2 H2 S2 e2 o2 h => k b δ2 H2 S2 (e1.trans o1 e2) (fun i z => o1 i (o2 i z)) h
  | true =>
    rw [if_pos rfl]
    exact k _ δ1 H1 S1 e1 o1 (h.2 rfl)
theorem sim_not (h1 : SimT K G E t wt) : SimT K G E (tNot t) (wNot wt) := fun am M σ δ H S Qd h Q k =>
  h1 am M σ δ H S _ h _ fun b δ1 H1 S1 e1 o1 h => k _ δ1 H1 S1 e1 o1 h
theorem dw_and1 (ha : DT X G a t wt) : DW X G (.BoolOp .And [a] pos) t wt := ⟨pw_and1 ha.pt, ha.sim⟩
theorem dw_or1 (ha : DT X G a t wt) : DW X G (.BoolOp .Or [a] pos) t wt := ⟨pw_or1 ha.pt, ha.sim⟩
theorem dw_and (ha : DT X G a t wt) (hb : DW X G (.BoolOp .And (b :: rest) pos) u wu) : DW X G (.BoolOp .And (a :: b :: rest) pos) (tAnd t u) (wAnd wt wu) := ⟨pw_and ha.pt hb.pw, fun E => sim_and (ha.sim E) (hb.sim E)⟩
theorem dw_or (ha : DT X G a t wt) (hb : DW X G (.BoolOp .Or (b :: rest) pos) u wu) : DW X G (.BoolOp .Or (a :: b :: rest) pos) (tOr t u) (wOr wt wu) := ⟨pw_or ha.pt hb.pw, fun E => sim_or (ha.sim E) (hb.sim E)⟩
theorem DW.dt {e : Expr} (h : DW X G e t wt) : DT X G e t wt := ⟨h.pw.pt, h.sim⟩
theorem dt_not (ha : DT X G a t wt) : DT X G (.UnaryOp .Not a pos) (tNot t) (wNot wt) := ⟨pt_not ha.pt, fun E => sim_not (ha.sim E)⟩
/-- as values -/
def wAndV (a b : WE) : WE := fun δ Q => a δ fun x δ1 => ∃ k, x.d = .bl k ∧ (k = true → b δ1 Q) ∧ (k = false → Q (.sh (.bl false)) δ1)
def wOrV (a b : WE) : WE := fun δ Q => a δ fun x δ1 => ∃ k, x.d = .bl k ∧ (k = false → b δ1 Q) ∧ (k = true → Q (.sh (.bl true)) δ1)
def wNotV (a : WE) : WE := fun δ Q => a δ fun x δ1 => ∃ k, x.d = .bl k ∧ Q (.sh (.bl (!k))) δ1
theorem RV.weak {am : Nat → Addr} {M : List Addr} {σ : L2.St} {δ : St3} {H : Hp} {v : V} {q : RD} (h : RV K G E am M σ δ H v q) : RV K G E am M σ δ H v q := h
theorem sim_andV (ha : SimE K G E ta wa) (hb : SimE K G E tb wb) : SimE K G E (tAndV ta tb) (wAndV wa wb) := fun am M σ δ H S Qd h Q k => by
  refine ha am M σ δ H S _ h _ fun x rx δ1 H1 S1 e1 o1 v1 ⟨b, eb, h⟩ => ⟨b, rv_bl S1 v1 eb, ?_⟩
  cases b with
  | true =>
    rw [if_pos rfl]
    exact hb am M σ δ1 H1 S1 _ (h.1 rfl) _ fun v r δ2 H2 S2 e2 o2 v2 h => k v r δ2 H2 S2 (e1.trans o1 e2) (fun i z => o1 i (o2 i z)) v2 h
  | false =>
    rw [if_neg Bool.false_ne_true]
    exact k _ (.sh (.bl false)) δ1 H1 S1 e1 o1 rfl (h.2 rfl)
theorem sim_orV (ha : SimE K G E ta wa) (hb : SimE K G E tb wb) : SimE K G E (tOrV ta tb) (wOrV wa wb) := fun am M σ δ H S Qd h Q k => by
  refine ha am M σ δ H S _ h _ fun x rx δ1 H1 S1 e1 o1 v1 ⟨b, eb, h⟩ => ⟨b, rv_bl S1 v1 eb, ?_⟩
  cases b with
  | false =>
    rw [if_neg Bool.false_ne_true]
    exact hb am M σ δ1 H1 S1 _ (h.1 rfl) _ fun v r δ2 H2 S2 e2 o2 v2 h => k v r δ2 H2 S2 (e1.trans o1 e2) (fun i z => o1 i (o2 i z)) v2 h
  | true =>
    rw [if_pos rfl]
    exact k _ (.sh (.bl true)) δ1 H1 S1 e1 o1 rfl (h.2 rfl)
theorem sim_notV (ha : SimE K G E ta wa) : SimE K G E (tNotV ta) (wNotV wa) := fun am M σ δ H S Qd h Q k =>
  ha am M σ δ H S _ h _ fun x rx δ1 H1 S1 e1 o1 v1 ⟨b, eb, h⟩ => ⟨b, rv_bl S1 v1 eb, k _ (.sh (.bl (!b))) δ1 H1 S1 e1 o1 rfl h⟩
theorem de_one {op} (h : DE X G a ta wa) : DE X G (.BoolOp op [a] pos) ta wa := ⟨pe_one h.pe, h.sim⟩
theorem de_and (ha : DE X G a ta wa) (hb : DE X G (.BoolOp .And (b :: rest) pos) tb wb) : DE X G (.BoolOp .And (a :: b :: rest) pos) (tAndV ta tb) (wAndV wa wb) := ⟨pe_and ha.pe hb.pe, fun E => sim_andV (ha.sim E) (hb.sim E)⟩
theorem de_or (ha : DE X G a ta wa) (hb : DE X G (.BoolOp .Or (b :: rest) pos) tb wb) : DE X G (.BoolOp .Or (a :: b :: rest) pos) (tOrV ta tb) (wOrV wa wb) := ⟨pe_or ha.pe hb.pe, fun E => sim_orV (ha.sim E) (hb.sim E)⟩
theorem de_not (ha : DE X G a ta wa) : DE X G (.UnaryOp .Not a pos) (tNotV ta) (wNotV wa) := ⟨pe_not ha.pe, fun E => sim_notV (ha.sim E)⟩
@[simp] def wIf (t : WT) (a b : WE) : WE := fun δ Q => t δ fun k δ1 => (k = true → a δ1 Q) ∧ (k = false → b δ1 Q)
theorem sim_if (ht : SimT K G E t wt) (ha : SimE K G E ta wa) (hb : SimE K G E tb wb) : SimE K G E (tIf t ta tb) (wIf wt wa wb) := fun am M σ δ H S Qd h Q k => by
  refine ht am M σ δ H S _ h _ fun b δ1 H1 S1 e1 o1 h => ?_
  cases b with
  | true =>
    rw [if_pos rfl]
    exact ha am M σ δ1 H1 S1 _ (h.1 rfl) _ fun v r δ2 H2 S2 e2 o2 v2 h => k v r δ2 H2 S2 (e1.trans o1 e2) (fun i z => o1 i (o2 i z)) v2 h
  | false =>
    rw [if_neg Bool.false_ne_true]
    exact hb am M σ δ1 H1 S1 _ (h.2 rfl) _ fun v r δ2 H2 S2 e2 o2 v2 h => k v r δ2 H2 S2 (e1.trans o1 e2) (fun i z => o1 i (o2 i z)) v2 h
theorem de_if (hc : DT X G c t wt) (ha : DE X G a ta wa) (hb : DE X G b tb wb) : DE X G (.IfExp c a b pos) (tIf t ta tb) (wIf wt wa wb) := ⟨pe_ifExp hc.pt ha.pe hb.pe, fun E => sim_if (hc.sim E) (ha.sim E) (hb.sim E)⟩

@[simp] def wNil : WA := fun δ Q => Q [] δ
@[simp] def wCons (a : WE) (t : WA) : WA := fun δ Q => a δ fun x δ1 => t δ1 fun xs δ2 => (x.bor → δ2.sl = δ1.sl) ∧ Q (x :: xs) δ2
variable {es : List Expr} {tA : TA} {wA : WA}
theorem sim_nil : SimA K G E tNil wNil := fun am M σ δ H S Qd h Q k => k [] [] δ H S .refl (fun _ z => z) .nil h
theorem sim_cons (ha : SimE K G E ta wa) (hr : SimA K G E tA wA) : SimA K G E (tCons ta tA) (wCons wa wA) := fun am M σ δ H S Qd h Q k => by
  refine ha am M σ δ H S _ h _ fun x rx δ1 H1 S1 e1 o1 v1 h => ?_
  refine hr am M σ δ1 H1 S1 _ h _ fun xs rs δ2 H2 S2 e2 o2 v2 ⟨st, h⟩ => ?_
  exact k _ _ δ2 H2 S2 (e1.trans o1 e2) (fun i z => o1 i (o2 i z)) (.cons (v1.k.later S1 e2 st) v2) h
theorem da_nil : DA X G [] tNil wNil := ⟨pa_nil, fun _ => sim_nil⟩
theorem da_cons (ha : DE X G a ta wa) (hr : DA X G es tA wA) (hs : starEach (a :: es) X.env = (false, eval a X.env) :: starEach es X.env := by rfl) : DA X G (a :: es) (tCons ta tA) (wCons wa wA) := ⟨pa_cons ha.pe hr.pa hs, fun E => sim_cons (ha.sim E) (hr.sim E)⟩
/-- all may be kept -/
@[simp] def keeps : List RD → Prop
  | [] => True
  | r :: rs => ¬ r.bor ∧ keeps rs
theorem RKs.rep {am : Nat → Addr} {M : List Addr} {δ : St3} {H : Hp} : ∀ {vs : List V} {rs : List RD}, RKs K G am M δ H vs rs → keeps rs → RepAll K G (mask M H) vs (rs.map RD.d)
  | _, _, .nil, _ => rfl
  | _, _, .cons h t, ⟨k, ks⟩ => ⟨_, _, rfl, h.rep k, t.rep ks⟩
theorem RKs.length {am : Nat → Addr} {M : List Addr} {δ : St3} {H : Hp} : ∀ {vs : List V} {rs : List RD}, RKs K G am M δ H vs rs → vs.length = rs.length
  | _, _, .nil => rfl
  | _, _, .cons _ t => congrArg Nat.succ t.length
inductive RBs (K : PySem.W.Frag) (G : Gx) (M : List Addr) (H : Hp) : List V → List D → Prop
  | nil : RBs K G M H [] []
  | cons {v : V} {vs : List V} {d : D} {ds : List D} : RB K G M H v d → RBs K G M H vs ds → RBs K G M H (v :: vs) (d :: ds)
theorem RKs.rbs {am : Nat → Addr} {M : List Addr} {σ : L2.St} {δ : St3} {H : Hp} (S : SR K G E am M σ δ H) : ∀ {vs : List V} {rs : List RD}, RKs K G am M δ H vs rs → RBs K G M H vs (rs.map RD.d)
  | _, _, .nil => .nil
  | _, _, .cons h t => .cons (h.rb S) (t.rbs S)
@[simp] def wTup (t : WA) : WE := fun δ Q => t δ fun rs δ1 => keeps rs ∧ rs.length ≤ 1000 ∧ Q (.sh (.tup (rs.map RD.d))) δ1
@[simp] def wLst (t : WA) : WE := fun δ Q => t δ fun rs δ1 => keeps rs ∧ rs.length ≤ 1000 ∧ Q (.fr (.lst (rs.map RD.d))) δ1
theorem sz1000 {n : Nat} (h : n ≤ 1000) : n ≤ sizeLine := Nat.le_of_lt (small1000 h)
theorem same_new {H : Hp} {p : Addr} {o : HO} (h : H p = none) : Same H (upd H p o) := fun b x e => by
  rw [upd_ne (ne_of_none e h)]; exact e
theorem sim_tup (h : SimA K G E tA wA) : SimE K G E (tTup tA) (wTup wA) := fun am M σ δ H S Qd q Q k => by
  refine h am M σ δ H S _ q _ fun vs rs δ1 H1 S1 e1 o1 r1 ⟨hk, hl, hq⟩ => ⟨sz1000 (by rw [r1.length]; exact hl), fun p hp => ?_⟩
  have sm := same_new (o := .tup vs) hp
  refine k _ (.sh (.tup (rs.map RD.d))) δ1 _ (S1.grow sm) (e1.trans o1 (Ext.of (δ := δ1) sm)) o1 ⟨p, vs, rfl, SqT.of ?_, (r1.rep hk).mono (mask_mono sm)⟩ hq
  rw [mask_out fun z => S1.al p z hp, upd_same]
theorem sim_lst (h : SimA K G E tA wA) : SimE K G E (tLst tA) (wLst wA) := fun am M σ δ H S Qd q Q k => by
  refine h am M σ δ H S _ q _ fun vs rs δ1 H1 S1 e1 o1 r1 ⟨hk, hl, hq⟩ => ⟨sz1000 (by rw [r1.length]; exact hl), fun p hp => ?_⟩
  have sm := same_new (o := .lst vs) hp
  exact k _ (.fr (.lst (rs.map RD.d))) δ1 _ (S1.grow sm) (e1.trans o1 (Ext.of (δ := δ1) sm)) o1 (RN.rv (r := .fr (.lst (rs.map RD.d))) S1 sm ⟨p, rfl, hp, vs, upd_same, (r1.rep hk).mono (mask_new hp sm)⟩) hq
theorem de_tup {x1} (h : DA X G es tA wA) : DE X G (.Tuple es x1 pos) (tTup tA) (wTup wA) := ⟨pe_tup h.pa, fun E => sim_tup (h.sim E)⟩
theorem de_lst (h : DA X G es tA wA) : DE X G (.List es pos) (tLst tA) (wLst wA) := ⟨pe_lst h.pa, fun E => sim_lst (h.sim E)⟩

abbrev FC := List D → (RD → Prop) → Prop
def CallS (K : PySem.W.Frag) (G : Gx) (r : List V → Hp → VK → Prop) (f : FC) : Prop := ∀ (M : List Addr) (H : Hp) (vs : List V) (ds : List D), (∀ a ∈ M, H a ≠ none) → RBs K G M H vs ds → ∀ Qd : RD → Prop, f ds Qd → ∀ Q : VK,
  (∀ v q H', Same H H' → RN K G M H H' v q → Qd q → Q v H') → r vs H Q
@[simp] def wCB (f : FC) (t : WA) : WE := fun δ Q => t δ fun rs δ1 => f (rs.map RD.d) fun q => Q q δ1
theorem sim_cb {rc : List V → Hp → VK → Prop} {fc : FC} (hs : CallS K G rc fc) (h : SimA K G E tA wA) : SimE K G E (tCB rc tA) (wCB fc wA) := fun am M σ δ H S Qd q Q k => by
  refine h am M σ δ H S _ q _ fun vs rs δ1 H1 S1 e1 o1 r1 hq => ?_
  exact hs M H1 vs _ S1.al (r1.rbs S1) _ hq _ fun v q H3 sm rn hq => k v q δ1 H3 (S1.grow sm) (e1.trans o1 (Ext.of (δ := δ1) sm)) o1 (rn.rv S1 sm) hq
theorem de_callB {id : String} {x : Str} {p : Pos} {rc : List V → Hp → VK → Prop} {fc : FC} (hc : CallR X (.builtin id) rc) (hs : CallS X.K G rc fc) (hg : Gl X x) (hm : X.mg x = none) (hv : bootBuiltins x = some (.builtin id)) (ha : DA X G (a :: es) tA wA) (hn : x ≠ "__name__" := by decide) (hdb : (x == ("__debug__" : Str)) = false := by decide)
    (he : starEach (a :: es) X.env = (false, eval a X.env) :: starEach es X.env := by rfl) (hpl : (backTo pos (starEach es X.env)).any (·.1) = false := by rfl) : DE X G (.Call (.Name x p) (a :: es) [] pos) (tCB rc tA) (wCB fc wA) := ⟨pe_callB hc hg hm hv ha.pa hn hdb he hpl, fun E => sim_cb hs (ha.sim E)⟩
theorem de_callTy {T : String} {x : Str} {p : Pos} {rc : List V → Hp → VK → Prop} {fc : FC} (hc : CallR X (.type T) rc) (hs : CallS X.K G rc fc) (hg : Gl X x) (hm : X.mg x = none) (hv : bootBuiltins x = some (.type T)) (ha : DA X G (a :: es) tA wA) (hn : x ≠ "__name__" := by decide) (hdb : (x == ("__debug__" : Str)) = false := by decide)
    (he : starEach (a :: es) X.env = (false, eval a X.env) :: starEach es X.env := by rfl) (hpl : (backTo pos (starEach es X.env)).any (·.1) = false := by rfl) : DE X G (.Call (.Name x p) (a :: es) [] pos) (tCB rc tA) (wCB fc wA) := ⟨pe_callTy hc hg hm hv ha.pa hn hdb he hpl, fun E => sim_cb hs (ha.sim E)⟩
end
end L3
namespace L3
open PySem L2
@[simp] def wipe3 (sl : List (Option SV)) : List Nat → List (Option SV)
  | [] => sl
  | v :: vs => (wipe3 sl vs).set v none
@[simp] def unwipe (sl0 sl : List (Option SV)) : List Nat → List (Option SV)
  | [] => sl
  | v :: vs => (unwipe sl0 sl vs).set v ((sl0[v]?).getD none)
@[simp] def noOwn (sl : List (Option SV)) : List Nat → Prop
  | [] => True
  | v :: vs => (match sl[v]? with | some (some (.ow _)) => False | _ => True) ∧ noOwn sl vs
theorem noOwn.at {sl : List (Option SV)} : ∀ {vs : List Nat} {v : Nat} {d : D}, noOwn sl vs → v ∈ vs → sl[v]? = some (some (SV.ow d)) → False
  | [], _, _, _, m, _ => by simp at m
  | w :: vs, v, d, ⟨h, t⟩, m, e => by
    rcases List.mem_cons.mp m with q | q
    · subst q; rw [e] at h; exact h
    · exact t.at q e
section
variable {K : PySem.W.Frag} {G : Gx} {H H' H1 H2 H3 : Hp} {v : V} {d : D} {M M' : List Addr} {E : Ent} {am : Nat → Addr} {σ σ' : L2.St} {δ δ' δ1 δ2 : St3}
theorem SR.wiped (S : SR K G E am M σ δ H) : ∀ vs : List Nat, SR K G E am M (wipe σ vs) ⟨wipe3 δ.sl vs, δ.n⟩ H
  | [] => S
  | _ :: vs => (S.wiped vs).set_none
theorem wipe3_own {sl : List (Option SV)} {n : Nat} {i : Nat} : ∀ {vs : List Nat}, isOwn ⟨wipe3 sl vs, n⟩ i → isOwn ⟨sl, n⟩ i
  | [], h => h
  | v :: vs, ⟨d, h⟩ => by
    rcases get_set h with ⟨_, z⟩ | ⟨_, z⟩
    · cases z
    · exact wipe3_own (vs := vs) ⟨d, z⟩
theorem wipe_get {σ : L2.St} {j : Nat} : ∀ {vs : List Nat}, j ∉ vs → (wipe σ vs)[j]? = σ[j]?
  | [], _ => rfl
  | v :: vs, h => by
    have h1 : v ≠ j := fun z => h (z ▸ List.mem_cons_self)
    have h2 : j ∉ vs := fun z => h (List.mem_cons_of_mem _ z)
    show ((wipe σ vs).set v none)[j]? = _
    rw [List.getElem?_set_ne h1, wipe_get h2]
theorem wipe_in {σ : L2.St} {j : Nat} : ∀ {vs : List Nat}, j ∈ vs → (wipe σ vs)[j]? = if j < σ.length then some none else none
  | [], h => by simp at h
  | v :: vs, h => by
    show ((wipe σ vs).set v none)[j]? = _
    by_cases e : v = j
    · subst e
      by_cases l : v < σ.length
      · rw [List.getElem?_set_self (by rw [wipe_length]; exact l), if_pos l]
      · rw [List.getElem?_eq_none (by rw [List.length_set, wipe_length]; omega), if_neg l]
    · rw [List.getElem?_set_ne e]
      exact wipe_in ((List.mem_cons.mp h).resolve_left fun z => e z.symm)
theorem wipe_set {σ : L2.St} {i : Nat} {x : Option V} {vs : List Nat} (h : i ∈ vs) : wipe (σ.set i x) vs = wipe σ vs := by
  apply List.ext_getElem?
  intro j
  by_cases q : j ∈ vs
  · rw [wipe_in q, wipe_in q, List.length_set]
  · rw [wipe_get q, wipe_get q, List.getElem?_set_ne fun z => q (by rw [← z]; exact h)]
theorem wipe_wipe {σ : L2.St} {vs : List Nat} : wipe (wipe σ vs) vs = wipe σ vs := by
  apply List.ext_getElem?
  intro j
  by_cases q : j ∈ vs
  · rw [wipe_in q, wipe_in q, wipe_length]
  · rw [wipe_get q]
theorem unwipe_get {sl0 sl : List (Option SV)} {j : Nat} {x : SV} : ∀ {vs : List Nat}, (unwipe sl0 sl vs)[j]? = some (some x) → (j ∉ vs ∧ sl[j]? = some (some x)) ∨ (j ∈ vs ∧ sl0[j]? = some (some x))
  | [], h => .inl ⟨by simp, h⟩
  | v :: vs, h => by
    rcases get_set h with ⟨e, z⟩ | ⟨e, z⟩
    · subst e
      refine .inr ⟨List.mem_cons_self, ?_⟩
      cases q : sl0[j]? with
      | none => rw [q] at z; cases z
      | some y => rw [q] at z; exact congrArg some z.symm
    · rcases unwipe_get z with ⟨a, b⟩ | ⟨a, b⟩
      · exact .inl ⟨by simp only [List.mem_cons, not_or]; exact ⟨e, a⟩, b⟩
      · exact .inr ⟨List.mem_cons_of_mem _ a, b⟩
theorem unwipe_len {sl0 sl : List (Option SV)} : ∀ {vs : List Nat}, (unwipe sl0 sl vs).length = sl.length
  | [] => rfl
  | _ :: vs => by show ((unwipe sl0 sl vs).set _ _).length = _; rw [List.length_set, unwipe_len]
/-- the forgotten slots are what they were -/
theorem SR.back {vs : List Nat} (S0 : SR K G E am M σ δ1 H1) (S : SR K G E am M' (wipe σ vs) δ2 H2) (hM : ∀ a ∈ M, a ∈ M') (no : noOwn δ1.sl vs) (e : Same (L3.mask M' H1) (L3.mask M' H2)) (r : ∀ (i : Nat) (d : D), δ1.sl[i]? = some (some (SV.sh d)) → ∀ v : V, σ[i]? = some (some v) → Rep K G (L3.mask M' H1) v d) :
    SR K G E am M' σ ⟨unwipe δ1.sl δ2.sl vs, δ2.n⟩ H2 where
  len := by rw [unwipe_len, ← S.len, wipe_length]
  sh := fun j d h => by
    rcases unwipe_get h with ⟨a, b⟩ | ⟨a, b⟩
    · obtain ⟨v, x, y⟩ := S.sh j d b
      rw [wipe_get a] at x
      exact ⟨v, x, y⟩
    · obtain ⟨v, x, y⟩ := S0.sh j d b
      exact ⟨v, x, (r j d b v x).mono e⟩
  ow := fun j d h => by
    rcases unwipe_get h with ⟨a, b⟩ | ⟨a, b⟩
    · obtain ⟨x, y⟩ := S.ow j d b
      rw [wipe_get a] at x
      exact ⟨x, y⟩
    · exact (no.at a b).elim
  inj := fun a b ⟨x, ha⟩ ⟨y, hb⟩ => by
    rcases unwipe_get ha with ⟨_, p⟩ | ⟨p, q⟩
    · rcases unwipe_get hb with ⟨_, p'⟩ | ⟨p', q'⟩
      · exact S.inj a b ⟨x, p⟩ ⟨y, p'⟩
      · exact (no.at p' q').elim
    · exact (no.at p q).elim
  ads := S.ads
  dks := S.dks
  al := S.al
  base := S.base
  di := S.di
  gh := S.gh
  slf := fun x hx d h k => by
    rcases unwipe_get h with ⟨_, z⟩ | ⟨z, w⟩
    · exact S.slf x hx d z k
    · exact (no.at z w).elim
end

abbrev WG := D → St3 → (St3 → Prop) → Prop
abbrev WGs := List D → St3 → (St3 → Prop) → Prop
abbrev WI := St3 → (List D → St3 → Prop) → Prop
def SimG (K : PySem.W.Frag) (G : Gx) (us : List Nat) (g : TG) (w : WG) : Prop := ∀ (E : Ent) (am : Nat → Addr) (M : List Addr) (σ : L2.St) (δ : St3) (H : Hp), SR K G E am M σ δ H → ∀ (x : V) (d : D), Rep K G (mask M H) x d → ∀ Qd : St3 → Prop, w d δ Qd → ∀ Q : L2.St → Hp → Prop,
  (∀ (σ' : L2.St) (δ' : St3), SR K G E am M σ' δ' H → (∀ vs : List Nat, (∀ u ∈ us, u ∈ vs) → wipe σ' vs = wipe σ vs) → (∀ i, isOwn δ' i → isOwn δ i) → Qd δ' → Q σ' H) → g x σ H Q
def SimGs (K : PySem.W.Frag) (G : Gx) (us : List Nat) (g : TGs) (w : WGs) : Prop := ∀ (E : Ent) (am : Nat → Addr) (M : List Addr) (σ : L2.St) (δ : St3) (H : Hp), SR K G E am M σ δ H → ∀ (xs : List V) (ds : List D), RepAll K G (mask M H) xs ds → ∀ Qd : St3 → Prop, w ds δ Qd → ∀ Q : L2.St → Hp → Prop,
  (∀ (σ' : L2.St) (δ' : St3), SR K G E am M σ' δ' H → (∀ vs : List Nat, (∀ u ∈ us, u ∈ vs) → wipe σ' vs = wipe σ vs) → (∀ i, isOwn δ' i → isOwn δ i) → Qd δ' → Q σ' H) → g xs σ H Q
structure DG (X : Cx) (G : Gx) (tg : Expr) (us : List Nat) (g : TG) (w : WG) : Prop where
  pg : PG X tg g
  sim : SimG X.K G us g w
structure DGs (X : Cx) (G : Gx) (tgs : List Expr) (us : List Nat) (g : TGs) (w : WGs) : Prop where
  pg : PGs X tgs g
  sim : SimGs X.K G us g w
@[simp] def gN (i : Nat) : WG := fun d δ Q => Q ⟨δ.sl.set i (some (.sh d)), δ.n⟩
@[simp] def gNil3 : WGs := fun ds δ Q => ds = [] ∧ Q δ
def gCons3 (g : WG) (t : WGs) : WGs := fun ds δ Q => ∃ d r, ds = d :: r ∧ g d δ fun δ1 => t r δ1 Q
@[simp] def gTup3 (n : Nat) (t : WGs) : WG := fun d δ Q => ∃ ds, d = .tup ds ∧ ds.length = n ∧ t ds δ Q
section
variable {X : Cx} {G : Gx} {K : PySem.W.Frag}
theorem own_set {δ : St3} {i j : Nat} {d : D} (h : isOwn ⟨δ.sl.set i (some (.sh d)), δ.n⟩ j) : isOwn δ j := by
  obtain ⟨e, h⟩ := h
  rcases get_set h with ⟨_, z⟩ | ⟨_, z⟩
  · injection z with z; cases z
  · exact ⟨e, z⟩
theorem sim_gN {i : Nat} : SimG K G [i] (gName i) (gN i) := fun E am M σ δ H S x d r Qd h Q k =>
  k _ _ (S.set_sh r) (fun vs hv => wipe_set (hv i (by simp))) (fun j z => own_set z) h
theorem sim_gNil : SimGs K G [] gNil gNil3 := fun E am M σ δ H S xs ds r Qd ⟨e, h⟩ Q k => by
  subst e
  exact ⟨r, k σ δ S (fun _ _ => rfl) (fun _ z => z) h⟩
theorem sim_gCons {g : TG} {t : TGs} {w : WG} {ws : WGs} {us us' : List Nat} (h1 : SimG K G us g w) (h2 : SimGs K G us' t ws) : SimGs K G (us ++ us') (gCons g t) (gCons3 w ws) := fun E am M σ δ H S xs ds r Qd ⟨d, rs, e, h⟩ Q k => by
  subst e
  obtain ⟨x, xs, rfl, r1, r2⟩ := r
  refine ⟨x, xs, rfl, h1 E am M σ δ H S x d r1 _ h _ fun σ1 δ1 S1 w1 o1 h => ?_⟩
  refine h2 E am M σ1 δ1 H S1 xs rs r2 _ h _ fun σ2 δ2 S2 w2 o2 h => ?_
  exact k σ2 δ2 S2 (fun vs hv => (w2 vs fun u hu => hv u (List.mem_append_right _ hu)).trans (w1 vs fun u hu => hv u (List.mem_append_left _ hu))) (fun i z => o1 i (o2 i z)) h
theorem sim_gTup {n : Nat} {t : TGs} {ws : WGs} {us : List Nat} (h : SimGs K G us t ws) : SimG K G us (gTup K n t) (gTup3 n ws) := fun E am M σ δ H S x d r Qd ⟨ds, e, hl, q⟩ Q k => by
  subst e
  obtain ⟨a, xs, rfl, ht, rs⟩ := r
  exact ⟨a, xs, rfl, same_t mask_le ht, by rw [rs.length]; exact hl, h E am M σ δ H S xs ds rs _ q _ k⟩
theorem dg_name {i : Nat} {x : Str} {pos : Pos} (hN : X.N.Nodup) (hi : X.N[i]? = some x := by rfl) (hx : Loc X.env.scope x := by first | exact Or.inl rfl | exact Or.inr rfl) (hf : X.fn x = true ∨ X.env.scope.names.lookup x = some .local := by first | exact .inl rfl | exact .inr rfl) : DG X G (.Name x pos) [i] (gName i) (gN i) := ⟨pg_name hN hi hx hf, sim_gN⟩
theorem dgs_nil : DGs X G [] [] gNil gNil3 := ⟨pgs_nil, sim_gNil⟩
theorem dgs_cons {e : Expr} {es : List Expr} {g : TG} {t : TGs} {w : WG} {ws : WGs} {us us' : List Nat} (h1 : DG X G e us g w) (h2 : DGs X G es us' t ws) (hs : (assignEach (e :: es) X.env).map (·.2) = assign e X.env :: (assignEach es X.env).map (·.2) := by rfl) : DGs X G (e :: es) (us ++ us') (gCons g t) (gCons3 w ws) := ⟨pgs_cons h1.pg h2.pg hs, sim_gCons h1.sim h2.sim⟩
theorem dg_tup {es : List Expr} {k : Nat} {pos : Pos} {t : TGs} {ws : WGs} {us : List Nat} {n : Nat} (hc : X.calm = true) (h : DGs X G es us t ws) (hn : (assignEach es X.env).length = n := by rfl) (hst : (assignEach es X.env).findIdx? (·.1) = none := by rfl) :
    DG X G (.Tuple es k pos) us (gTup X.K n t) (gTup3 n ws) := ⟨pg_tup hc h.pg hn hst, sim_gTup h.sim⟩
end

/-- an iterator gives just these, as long as the ghosts stand -/
def IterOk (K : PySem.W.Frag) (G : Gx) (gh : List (V × D)) (J : It) (items : List D) : Prop := ∀ (E : Ent) (am : Nat → Addr) (M : List Addr) (σ : L2.St) (δ : St3) (H : Hp), SR K G E am M σ δ H → (∀ p ∈ gh, p ∈ E.gh) →
  (∀ i, items.length = i → J.stop i H) ∧ ∀ (i : Nat) (d : D), items[i]? = some d → J.go i H ∧ ∀ x H', J.yld i H x H' → Same H H' ∧ Rep K G (mask M H') x d
def Ent.add (E : Ent) (l : List (V × D)) : Ent := ⟨E.H0, E.ads, l ++ E.gh, E.slf⟩
def SimI (K : PySem.W.Frag) (G : Gx) (E : Ent) (ti : TI) (w : WI) : Prop := ∀ (am : Nat → Addr) (M : List Addr) (σ : L2.St) (δ : St3) (H : Hp), SR K G E am M σ δ H → ∀ Rd : List D → St3 → Prop, w δ Rd → ∀ R : It → Hp → Prop,
  (∀ (J : It) (items : List D) (gh : List (V × D)) (δ' : St3) (H' : Hp), SR K G (E.add gh) am M σ δ' H' → Ext G am δ H H' → (∀ i, isOwn δ' i → isOwn δ i) → IterOk K G gh J items → Rd items δ' → R J H') → ti σ H R
structure DI (X : Cx) (G : Gx) (tg iter : Expr) (ti : TI) (w : WI) : Prop where
  pi : PI X tg iter ti
  sim : ∀ E, SimI X.K G E ti w
@[simp] def wItems (f : D → Option (List D)) (a : WE) : WI := fun δ R => a δ fun r δ1 => ¬ r.bor ∧ ∃ ds, f r.d = some ds ∧ R ds δ1
def asL : D → Option (List D)
  | .lst ds => some ds
  | _ => none
def asT : D → Option (List D)
  | .tup ds => some ds
  | _ => none
section
variable {X : Cx} {G : Gx} {K : PySem.W.Frag} {E : Ent} {tg e : Expr} {te : TE} {we : WE}
theorem SR.drop {gh : List (V × D)} {am : Nat → Addr} {M : List Addr} {σ : L2.St} {δ : St3} {H : Hp} (S : SR K G (E.add gh) am M σ δ H) : SR K G E am M σ δ H := S.ungh fun p h => List.mem_append_right _ h
theorem iterL {a : Addr} {ds : List D} : IterOk K G [(.ref a, .lst ds)] (Itl K a) ds := fun E am M σ δ H S hg => by
  obtain ⟨a', xs, e, hs, r⟩ := S.gh _ (hg (.ref a, .lst ds) (by simp))
  cases e
  have hs' : SqL K H a xs := SqL.of (mask_le _ _ hs)
  refine ⟨fun i hi => ⟨xs, hs', Nat.le_of_eq (r.length.trans hi)⟩, fun i d hd => ?_⟩
  obtain ⟨x, hx, rx⟩ := r.get hd
  refine ⟨⟨xs, x, hs', hx⟩, fun y H' ⟨e1, e2⟩ => ?_⟩
  subst e1
  have e3 := e2 xs hs'
  rw [hx] at e3
  cases e3
  exact ⟨Same.refl _, rx⟩
theorem iterT {a : Addr} {ds : List D} : IterOk K G [(.ref a, .tup ds)] (Itt K a) ds := fun E am M σ δ H S hg => by
  obtain ⟨a', xs, e, hs, r⟩ := S.gh _ (hg (.ref a, .tup ds) (by simp))
  cases e
  have hs' := same_t mask_le hs
  refine ⟨fun i hi => ⟨xs, hs', Nat.le_of_eq (r.length.trans hi)⟩, fun i d hd => ?_⟩
  obtain ⟨x, hx, rx⟩ := r.get hd
  refine ⟨⟨xs, x, hs', hx⟩, fun y H' ⟨e1, e2⟩ => ?_⟩
  subst e1
  have e3 := e2 xs hs'
  rw [hx] at e3
  cases e3
  exact ⟨Same.refl _, rx⟩
theorem sim_iL (h : SimE K G E te we) : SimI K G E (iList K te) (wItems asL we) := fun am M σ δ H S Rd q R k =>
  h am M σ δ H S _ q _ fun v r δ1 H1 S1 e1 o1 rv ⟨nb, ds, hd, hR⟩ => by
    have rr := rv.k.rep nb
    cases q : r.d with
    | lst ds' =>
      rw [q] at hd rr
      cases hd
      obtain ⟨a, xs, rfl, hs, r2⟩ := id rr
      refine ⟨a, rfl, ⟨xs, SqL.of (mask_le _ _ hs)⟩, k (Itl K a) ds [(.ref a, .lst ds)] δ1 H1 (S1.addgh _ fun p hp => ?_) e1 o1 iterL hR⟩
      have : p = (V.ref a, D.lst ds) := by simpa using hp
      subst this
      exact rr
    | _ => rw [q] at hd; cases hd
theorem sim_iT (h : SimE K G E te we) : SimI K G E (iTup K te) (wItems asT we) := fun am M σ δ H S Rd q R k =>
  h am M σ δ H S _ q _ fun v r δ1 H1 S1 e1 o1 rv ⟨nb, ds, hd, hR⟩ => by
    have rr := rv.k.rep nb
    cases q : r.d with
    | tup ds' =>
      rw [q] at hd rr
      cases hd
      obtain ⟨a, xs, rfl, hs, r2⟩ := id rr
      refine ⟨a, rfl, ⟨xs, same_t mask_le hs⟩, k (Itt K a) ds [(.ref a, .tup ds)] δ1 H1 (S1.addgh _ fun p hp => ?_) e1 o1 iterT hR⟩
      have : p = (V.ref a, D.tup ds) := by simpa using hp
      subst this
      exact rr
    | _ => rw [q] at hd; cases hd
theorem di_list (h : DE X G e te we) : DI X G tg e (iList X.K te) (wItems asL we) := ⟨pi_list h.pe, fun E => sim_iL (h.sim E)⟩
theorem di_tup (h : DE X G e te we) : DI X G tg e (iTup X.K te) (wItems asT we) := ⟨pi_tup h.pe, fun E => sim_iT (h.sim E)⟩
/-- range -/
def rng (lo : Int) (n : Nat) : List D := (List.range n).map fun (k : Nat) => D.int (lo + (k : Int))
theorem rng_len {lo : Int} {n : Nat} : (rng lo n).length = n := by simp [rng]
theorem rng_get {lo : Int} {n i : Nat} {d : D} (h : (rng lo n)[i]? = some d) : i < n ∧ d = .int (lo + i) := by
  have hi : i < n := by
    have := (List.getElem?_eq_some_iff.mp h).1
    rwa [rng_len] at this
  refine ⟨hi, ?_⟩
  rw [rng, List.getElem?_map, List.getElem?_range hi] at h
  exact (Option.some.inj h).symm
theorem iterR {lo : Int} {n : Nat} : IterOk K G [] (Itr lo n) (rng lo n) := fun E am M σ δ H S hg => by
  refine ⟨fun i hi => by rw [rng_len] at hi; exact Nat.le_of_eq hi, fun i d hd => ?_⟩
  obtain ⟨h1, rfl⟩ := rng_get hd
  refine ⟨h1, fun y H' ⟨e1, e2⟩ => ?_⟩
  subst e1 e2
  exact ⟨Same.refl _, rfl⟩
@[simp] def wRng1 (a : WA) : WI := fun δ R => a δ fun rs δ1 => ∃ j : Int, rs.map RD.d = [.int j] ∧ j < 2 ^ 62 ∧ -(2 ^ 62) ≤ j ∧ R (rng 0 j.toNat) δ1
@[simp] def wRng2 (a : WA) : WI := fun δ R => a δ fun rs δ1 => ∃ i j : Int, rs.map RD.d = [.int i, .int j] ∧ (-(2 ^ 62) ≤ i ∧ i < 2 ^ 62 ∧ -(2 ^ 62) ≤ j ∧ j < 2 ^ 62) ∧ R (rng i (j - i).toNat) δ1
variable {es : List Expr} {ta : TA} {wa : WA}
theorem RBs.one {M : List Addr} {H : Hp} {vs : List V} {d : D} (h : RBs K G M H vs [d]) : ∃ v, vs = [v] ∧ RB K G M H v d := by
  cases h with
  | cons a b => cases b; exact ⟨_, rfl, a⟩
theorem RBs.two {M : List Addr} {H : Hp} {vs : List V} {d e : D} (h : RBs K G M H vs [d, e]) : ∃ v u, vs = [v, u] ∧ RB K G M H v d ∧ RB K G M H u e := by
  cases h with
  | cons a b =>
    obtain ⟨u, rfl, c⟩ := b.one
    exact ⟨_, _, rfl, a, c⟩
theorem sim_r1 (h : SimA K G E ta wa) : SimI K G E (iRng1 ta) (wRng1 wa) := fun am M σ δ H S Rd q R k =>
  h am M σ δ H S _ q _ fun vs rs δ1 H1 S1 e1 o1 rv ⟨j, hj, h1, h2, hR⟩ => by
    have := rv.rbs S1
    rw [hj] at this
    obtain ⟨v, rfl, b⟩ := this.one
    rw [b.int]
    exact ⟨j, rfl, h2, h1, k _ _ [] δ1 H1 (S1.addgh _ fun p hp => by simp at hp) e1 o1 iterR hR⟩
theorem sim_r2 (h : SimA K G E ta wa) : SimI K G E (iRng2 ta) (wRng2 wa) := fun am M σ δ H S Rd q R k =>
  h am M σ δ H S _ q _ fun vs rs δ1 H1 S1 e1 o1 rv ⟨i, j, hj, hb, hR⟩ => by
    have := rv.rbs S1
    rw [hj] at this
    obtain ⟨v, u, rfl, b, c⟩ := this.two
    rw [b.int, c.int]
    exact ⟨i, j, rfl, hb, k _ _ [] δ1 H1 (S1.addgh _ fun p hp => by simp at hp) e1 o1 iterR hR⟩
theorem di_range1 {a : Expr} {p pos : Pos} (hg : Gl X "range") (hm : X.mg "range" = none) (ha : DA X G [a] ta wa) (hs : starEach [a] X.env = [(false, eval a X.env)] := by rfl) : DI X G tg (.Call (.Name "range" p) [a] [] pos) (iRng1 ta) (wRng1 wa) := ⟨pi_range1 hg hm ha.pa hs, fun E => sim_r1 (ha.sim E)⟩
theorem di_range2 {a b : Expr} {p pos : Pos} (hg : Gl X "range") (hm : X.mg "range" = none) (ha : DA X G [a, b] ta wa) (hs : starEach [a, b] X.env = [(false, eval a X.env), (false, eval b X.env)] := by rfl) (hs2 : starEach [b] X.env = [(false, eval b X.env)] := by rfl) :
    DI X G tg (.Call (.Name "range" p) [a, b] [] pos) (iRng2 ta) (wRng2 wa) := ⟨pi_range2 hg hm ha.pa hs hs2, fun E => sim_r2 (ha.sim E)⟩
end

@[simp] def wNext : WS := fun De δ => De.nx δ
@[simp] def wSeq (a b : WS) : WS := fun De δ => a ⟨b De, De.rt, De.bk, De.ct⟩ δ
@[simp] def wBrk : WS := fun De δ => De.bk δ
@[simp] def wCnt : WS := fun De δ => De.ct δ
@[simp] def wAsg (i : Nat) (w : WE) : WS := fun De δ => w δ fun r δ1 => ¬ r.bor ∧ De.nx ⟨δ1.sl.set i (some (.sh r.d)), δ1.n⟩
@[simp] def wAsgO (i : Nat) (w : WE) : WS := fun De δ => w δ fun r δ1 => ∃ d, r = .fr d ∧ d.isIns = false ∧ De.nx ⟨δ1.sl.set i (some (.ow d)), δ1.n⟩
@[simp] def wAsgG (g : WG) (w : WE) : WS := fun De δ => w δ fun r δ1 => ¬ r.bor ∧ g r.d δ1 De.nx
@[simp] def wDrop (w : WE) : WS := fun De δ => w δ fun _ δ1 => De.nx δ1
@[simp] def wRet (w : WE) : WS := fun De δ => w δ fun r δ1 => De.rt r.d δ1.n
@[simp] def wRetN : WS := fun De δ => De.rt .non δ.n
@[simp] def wIfS (t : WT) (a b : WS) : WS := fun De δ => t δ fun k δ1 => (k = true → a De δ1) ∧ (k = false → b De δ1)
/-- the list in a slot is never changed again -/
@[simp] def wFree (i : Nat) (w : WS) : WS := fun De δ => ∃ d, δ.sl[i]? = some (some (SV.ow d)) ∧ w De ⟨δ.sl.set i (some (.sh d)), δ.n⟩
def wLoop (g : WG) (b : WS) (De : Ends3) : List D → St3 → Prop
  | [], δ => De.nx δ
  | x :: r, δ => g x δ fun δ1 => b ⟨wLoop g b De r, De.rt, De.nx, wLoop g b De r⟩ δ1
@[simp] def wFor (wi : WI) (g : WG) (b : WS) : WS := fun De δ => wi δ fun ds δ1 => wLoop g b De ds δ1
def wWhile (t : WT) (b : WS) : WS := fun De δ => ∃ W : Nat → St3 → Prop, (∃ m, W m δ) ∧ ∀ m δ, W m δ → t δ fun k δ1 =>
  (k = true → b ⟨fun δ' => ∃ m', m' < m ∧ W m' δ', De.rt, De.nx, fun δ' => ∃ m', m' < m ∧ W m' δ'⟩ δ1) ∧ (k = false → De.nx δ1)
def okp (o : Bool) (r : RD) : Prop := match o with
  | true => ∃ d, r = .fr d ∧ d.isIns = false
  | false => ¬ r.bor
@[simp] theorem okp_0 (r : RD) : okp true r = ∃ d, r = .fr d ∧ d.isIns = false := rfl
@[simp] theorem okp_1 (r : RD) : okp false r = ¬ r.bor := rfl
def svOf (o : Bool) (r : RD) : SV := match o with
  | true => .ow r.d
  | false => .sh r.d
@[simp] theorem svOf_0 (r : RD) : svOf true r = .ow r.d := rfl
@[simp] theorem svOf_1 (r : RD) : svOf false r = .sh r.d := rfl
@[simp] def wPar2 (i : Nat) (oi : Bool) (j : Nat) (oj : Bool) (a b : WE) : WS := fun De δ => a δ fun x δ1 => b δ1 fun y δ2 => okp oi x ∧ okp oj y ∧ De.nx ⟨(δ2.sl.set i (some (svOf oi x))).set j (some (svOf oj y)), δ2.n⟩
@[simp] def wPar3 (i : Nat) (oi : Bool) (j : Nat) (oj : Bool) (l : Nat) (ol : Bool) (a b c : WE) : WS := fun De δ => a δ fun x δ1 => b δ1 fun y δ2 => c δ2 fun z δ3 => okp oi x ∧ okp oj y ∧ okp ol z ∧
  De.nx ⟨((δ3.sl.set i (some (svOf oi x))).set j (some (svOf oj y))).set l (some (svOf ol z)), δ3.n⟩
section
variable {X : Cx} {G : Gx} {K : PySem.W.Frag} {E : Ent} {te ta tb tc : TE} {we wa wb wc : WE} {t u : TS} {w w' : WS} {e a b c : Expr} {st : Stmt} {sts : List Stmt} {tt : TT} {wt : WT} {pos : Pos}
theorem sim_seq (h1 : SimS K G t w) (h2 : SimS K G u w') : SimS K G (tSeq t u) (wSeq w w') := fun E am M σ δ H S D3 h De R =>
  h1 E am M σ δ H S _ h _ ⟨fun am M σ δ H S q => h2 E am M σ δ H S D3 q De R, R.bk, R.ct, R.rt⟩
theorem sim_next : SimS K G tNext wNext := fun E am M σ δ H S D3 h De R => R.nx am M σ δ H S h
theorem sim_brk : SimS K G tBreak wBrk := fun E am M σ δ H S D3 h De R => R.bk am M σ δ H S h
theorem sim_cnt : SimS K G tCont wCnt := fun E am M σ δ H S D3 h De R => R.ct am M σ δ H S h
theorem sim_asg {i : Nat} (h : ∀ E, SimE K G E te we) : SimS K G (tAsg te (gName i)) (wAsg i we) := fun E am M σ δ H S D3 q De R =>
  h E am M σ δ H S _ q _ fun v r δ1 H1 S1 e1 o1 rv ⟨nb, q⟩ => R.nx am M _ _ H1 (S1.set_sh (rv.k.rep nb)) q
theorem sim_asgG {g : TG} {wg : WG} {us : List Nat} (h : ∀ E, SimE K G E te we) (hg : SimG K G us g wg) : SimS K G (tAsg te g) (wAsgG wg we) := fun E am M σ δ H S D3 q De R =>
  h E am M σ δ H S _ q _ fun v r δ1 H1 S1 e1 o1 rv ⟨nb, q⟩ => hg E am M σ δ1 H1 S1 v _ (rv.k.rep nb) _ q _ fun σ' δ' S' _ _ q => R.nx am M σ' δ' H1 S' q
theorem sim_asgO {i : Nat} (h : ∀ E, SimE K G E te we) : SimS K G (tAsg te (gName i)) (wAsgO i we) := fun E am M σ δ H S D3 q De R =>
  h E am M σ δ H S _ q _ fun v r δ1 H1 S1 e1 o1 rv ⟨d, er, ni, q⟩ => by
    subst er
    obtain ⟨p, rfl, hp, h0, o, S2⟩ := rv
    exact R.nx _ _ _ _ H1 (S2.set_ow List.mem_cons_self (fun z => hp (S1.ads p z)) (fun j d hd z => hp (z ▸ (S1.ow j d hd).2.1)) h0 o ni) q
theorem sim_drop (h : ∀ E, SimE K G E te we) : SimS K G (tDrop te) (wDrop we) := fun E am M σ δ H S D3 q De R =>
  h E am M σ δ H S _ q _ fun v r δ1 H1 S1 e1 o1 rv q => R.nx am M σ δ1 H1 S1 q
theorem RV.out {am : Nat → Addr} {M : List Addr} {σ : L2.St} {δ : St3} {H : Hp} {v : V} {r : RD} (S : SR K G E am M σ δ H) (h : RV K G E am M σ δ H v r) : Rep K G (mask E.ads H) v r.d := by
  cases r with
  | sh d => exact Rep.mono (mask_sub S.ads) d h
  | fr d => exact Rep.mono (mask_sub S.ads) d (RV.k h)
  | bo d =>
    obtain ⟨i, hi, rfl⟩ := h
    obtain ⟨_, _, c, _, o⟩ := S.ow i d hi
    exact o.rep (mask_sub S.ads) fun u e => by rw [mask_out c]; exact e
theorem sim_ret (h : ∀ E, SimE K G E te we) : SimS K G (tRet te) (wRet we) := fun E am M σ δ H S D3 q De R =>
  h E am M σ δ H S _ q _ fun v r δ1 H1 S1 e1 o1 rv q => R.rt v _ _ H1 (rv.out S1) S1.base S1.di q
theorem sim_retN : SimS K G tRetN wRetN := fun E am M σ δ H S D3 q De R => R.rt .non .non _ H rfl S.base S.di q
theorem sim_ifS (h : ∀ E, SimT K G E tt wt) (h1 : SimS K G t w) (h2 : SimS K G u w') : SimS K G (tIfS tt t u) (wIfS wt w w') := fun E am M σ δ H S D3 q De R =>
  h E am M σ δ H S _ q _ fun k δ1 H1 S1 e1 o1 q => by
    cases k with
    | true => rw [if_pos rfl]; exact h1 E am M σ δ1 H1 S1 D3 (q.1 rfl) De R
    | false => rw [if_neg Bool.false_ne_true]; exact h2 E am M σ δ1 H1 S1 D3 (q.2 rfl) De R
theorem sim_free {i : Nat} (h : SimS K G t w) : SimS K G t (wFree i w) := fun E am M σ δ H S D3 ⟨d, hd, q⟩ De R => by
  obtain ⟨M', _, S'⟩ := S.free hd
  exact h E am M' σ _ H S' D3 q De R
theorem sim_for {ti : TI} {wi : WI} {g : TG} {wg : WG} {us : List Nat} (hi : ∀ E, SimI K G E ti wi) (hg : SimG K G us g wg) (hb : SimS K G t w) : SimS K G (tFor ti g t) (wFor wi wg w) := fun E am M σ δ H S D3 q De R => by
  refine hi E am M σ δ H S _ q _ fun J items gh δ1 H1 S1 e1 o1 ok q => ?_
  refine ⟨fun i m σ H => m = items.length - i ∧ i ≤ items.length ∧ ∃ am M δ, SR K G (E.add gh) am M σ δ H ∧ wLoop wg w D3 (items.drop i) δ, ⟨_, rfl, Nat.zero_le _, am, M, δ1, S1, q⟩, ?_⟩
  rintro i m σ H ⟨rfl, hle, am, M, δ, S, q⟩
  obtain ⟨j1, j2⟩ := ok _ _ _ _ _ _ S fun p hp => List.mem_append_left _ hp
  by_cases hlt : i < items.length
  · have hd : items[i]? = some items[i] := List.getElem?_eq_getElem hlt
    obtain ⟨g1, g2⟩ := j2 i _ hd
    rw [List.drop_eq_getElem_cons hlt] at q
    refine .inr ⟨g1, fun σ' H' => ∃ am M δ, SR K G (E.add gh) am M σ' δ H' ∧ wLoop wg w D3 (items.drop (i + 1)) δ, fun σ' H' ⟨am, M, δ, S, q⟩ => ⟨_, by omega, rfl, hlt, am, M, δ, S, q⟩, fun x H' hy => ?_⟩
    obtain ⟨sm, rx⟩ := g2 x H' hy
    have S' := S.grow sm
    refine hg _ am M σ δ H' S' x _ rx _ q _ fun σ2 δ2 S2 _ _ q => ?_
    refine hb _ am M σ2 δ2 H' S2 _ q _ ⟨fun am M σ δ H S q => ⟨am, M, δ, S, q⟩, fun am M σ δ H S q => R.nx am M σ δ H S.drop q, fun am M σ δ H S q => ⟨am, M, δ, S, q⟩, R.rt⟩
  · have e : i = items.length := by omega
    subst e
    rw [List.drop_length] at q
    exact .inl ⟨j1 _ rfl, R.nx am M σ δ H S.drop q⟩
theorem sim_while (ht : ∀ E, SimT K G E tt wt) (hb : SimS K G t w) : SimS K G (tWhile tt t) (wWhile wt w) := fun E am M σ δ H S D3 ⟨W, ⟨m, w0⟩, q⟩ De R => by
  refine ⟨fun m σ H => ∃ am M δ, SR K G E am M σ δ H ∧ W m δ, ⟨m, am, M, δ, S, w0⟩, fun m σ H ⟨am, M, δ, S, hw⟩ => ?_⟩
  refine ht E am M σ δ H S _ (q m δ hw) _ fun k δ1 H1 S1 e1 o1 q => ?_
  cases k with
  | false => rw [if_neg Bool.false_ne_true]; exact R.nx am M σ δ1 H1 S1 (q.2 rfl)
  | true =>
    rw [if_pos rfl]
    refine ⟨fun σ' H' => ∃ m', m' < m ∧ ∃ am M δ, SR K G E am M σ' δ H' ∧ W m' δ, fun σ' H' z => z, hb E am M σ δ1 H1 S1 _ (q.1 rfl) _ ⟨?_, ?_, ?_, R.rt⟩⟩
    · exact fun am M σ δ H S ⟨m', l, z⟩ => ⟨m', l, am, M, δ, S, z⟩
    · exact R.nx
    · exact fun am M σ δ H S ⟨m', l, z⟩ => ⟨m', l, am, M, δ, S, z⟩
/-- a value at hand that is to be stored later, kept while others are worked out -/
def PV (K : PySem.W.Frag) (G : Gx) (E : Ent) (am : Nat → Addr) (M : List Addr) (δ : St3) (H : Hp) (v : V) : Bool → D → Prop
  | true, d => ∃ p, v = .ref p ∧ p ∈ M ∧ p ∉ E.ads ∧ E.H0 p = none ∧ (∀ (j : Nat) (d : D), δ.sl[j]? = some (some (SV.ow d)) → am j ≠ p) ∧ OwnAt K G M H p d
  | false, d => Rep K G (mask M H) v d
theorem RV.pv {am : Nat → Addr} {M : List Addr} {σ : L2.St} {δ : St3} {H : Hp} {v : V} {r : RD} {o : Bool} (S : SR K G E am M σ δ H) (h : RV K G E am M σ δ H v r) (k : okp o r) :
    ∃ M', (∀ a ∈ M, a ∈ M') ∧ SR K G E am M' σ δ H ∧ PV K G E am M' δ H v o r.d ∧ (o = true → ∀ p, v = .ref p → p ∉ M) := by
  cases o with
  | false => exact ⟨M, fun _ z => z, S, h.k.rep k, fun z => by cases z⟩
  | true =>
    obtain ⟨d, rfl, _⟩ := k
    obtain ⟨p, rfl, hp, h0, o, S2⟩ := h
    exact ⟨p :: M, fun a z => List.mem_cons_of_mem _ z, S2, ⟨p, rfl, List.mem_cons_self, fun z => hp (S.ads p z), h0, fun j d hd z => hp (z ▸ (S.ow j d hd).2.1), o⟩, fun _ q e => by cases e; exact hp⟩
theorem RepAll.zip {H : Hp} : ∀ {xs : List V} {ds : List D}, RepAll K G H xs ds → ∀ p ∈ xs.zip ds, Rep K G H p.1 p.2
  | _, [], h, p, hp => by cases h; simp at hp
  | _, d :: ds, ⟨x, xs, e, r, t⟩, p, hp => by
    subst e
    rcases List.mem_cons.mp (show p ∈ (x, d) :: xs.zip ds from hp) with z | z
    · rw [z]; exact r
    · exact t.zip p z
theorem RepAll.unzip {H : Hp} : ∀ {xs : List V} {ds : List D}, xs.length = ds.length → (∀ p ∈ xs.zip ds, Rep K G H p.1 p.2) → RepAll K G H xs ds
  | [], [], _, _ => rfl
  | [], _ :: _, l, _ => by simp at l
  | _ :: _, [], l, _ => by simp at l
  | x :: xs, d :: ds, l, h => ⟨x, xs, rfl, h (x, d) List.mem_cons_self, RepAll.unzip (by simpa using l) fun p hp => h p (List.mem_cons_of_mem _ hp)⟩
theorem PV.ghost {am : Nat → Addr} {M : List Addr} {σ : L2.St} {δ : St3} {H : Hp} {v : V} {d : D} {o : Bool} (S : SR K G E am M σ δ H) (h : PV K G E am M δ H v o d) :
    ∃ l, SR K G (E.add l) am M σ δ H ∧ ∀ (M' : List Addr) (δ' : St3) (H' : Hp), SR K G (E.add l) am M' σ δ' H' → Ext G am δ H H' → (∀ i, isOwn δ' i → isOwn δ i) → (∀ a ∈ M, a ∈ M') → PV K G E am M' δ' H' v o d := by
  cases o with
  | false =>
    refine ⟨[(v, d)], S.addgh _ fun p hp => ?_, fun M' δ' H' S' _ _ _ => S'.gh (v, d) (by simp [Ent.add])⟩
    have : p = (v, d) := by simpa using hp
    subst this
    exact h
  | true =>
    obtain ⟨p, rfl, hp, ha, h0, hn, o⟩ := h
    have own : ∀ {δ' : St3}, (∀ i, isOwn δ' i → isOwn δ i) → ∀ (j : Nat) (d : D), δ'.sl[j]? = some (some (SV.ow d)) → am j ≠ p := fun ow j d hd => by
      obtain ⟨d', h'⟩ := ow j ⟨d, hd⟩
      exact hn j d' h'
    have keep : ∀ {H' : Hp}, Ext G am δ H H' → ∀ u, H p = some u → H' p = some u := fun e u hu => e p u hu (fun z => ha (S.dks p z)) fun i ⟨d, hi⟩ => hn i d hi
    cases d with
    | lst ds =>
      obtain ⟨xs, hx, r⟩ := o
      refine ⟨xs.zip ds, S.addgh _ r.zip, fun M' δ' H' S' e ow hM => ⟨p, rfl, hM p hp, ha, h0, own ow, xs, keep e _ hx, RepAll.unzip r.length fun q hq => S'.gh q (List.mem_append_left _ hq)⟩⟩
    | dct ks ds =>
      obtain ⟨xs, hx, l, r⟩ := o
      refine ⟨xs.zip ds, S.addgh _ r.zip, fun M' δ' H' S' e ow hM => ⟨p, rfl, hM p hp, ha, h0, own ow, xs, keep e _ hx, l, RepAll.unzip r.length fun q hq => S'.gh q (List.mem_append_left _ hq)⟩⟩
    | ins t ds =>
      obtain ⟨dx, xs, hx, l, r⟩ := o
      refine ⟨xs.zip ds, S.addgh _ r.zip, fun M' δ' H' S' e ow hM => ⟨p, rfl, hM p hp, ha, h0, own ow, dx, xs, keep e _ hx, l, RepAll.unzip r.length fun q hq => S'.gh q (List.mem_append_left _ hq)⟩⟩
    | _ => exact o.elim
theorem okp_ni {o : Bool} {r : RD} (k : okp o r) : o = true → r.d.isIns = false := fun e => by
  subst e
  obtain ⟨d, rfl, h⟩ := k
  exact h
theorem PV.put {am : Nat → Addr} {M : List Addr} {σ : L2.St} {δ : St3} {H : Hp} {v : V} {r : RD} {o : Bool} {i : Nat} (S : SR K G E am M σ δ H) (h : PV K G E am M δ H v o r.d) (ni : o = true → r.d.isIns = false) :
    ∃ am', SR K G E am' M (σ.set i (some v)) ⟨δ.sl.set i (some (svOf o r)), δ.n⟩ H ∧ ∀ (v' : V) (o' : Bool) (d' : D), (o = true → o' = true → v' ≠ v) → PV K G E am M δ H v' o' d' → PV K G E am' M ⟨δ.sl.set i (some (svOf o r)), δ.n⟩ H v' o' d' := by
  cases o with
  | false =>
    refine ⟨am, S.set_sh h, fun v' o' r' _ h' => ?_⟩
    cases o' with
    | false => exact h'
    | true =>
      obtain ⟨p, e, hp, ha, h0, hn, o⟩ := h'
      exact ⟨p, e, hp, ha, h0, fun j d hd => by obtain ⟨d', q⟩ := own_set ⟨d, hd⟩; exact hn j d' q, o⟩
  | true =>
    obtain ⟨p, rfl, hp, ha, h0, hn, o⟩ := h
    refine ⟨_, S.set_ow (i := i) hp ha hn h0 o (ni rfl), fun v' o' r' hne h' => ?_⟩
    cases o' with
    | false => exact h'
    | true =>
      obtain ⟨p', rfl, hp', ha', h0', hn', o'⟩ := h'
      refine ⟨p', rfl, hp', ha', h0', fun j d hd => ?_, o'⟩
      show (if j = i then p else am j) ≠ p'
      by_cases q : j = i
      · rw [if_pos q]
        intro z
        exact hne rfl rfl (by rw [z])
      · rw [if_neg q]
        rcases get_set hd with ⟨z, _⟩ | ⟨_, z⟩
        · exact (q z).elim
        · exact hn' j d z
theorem EndsR.add {D3 : Ends3} {De : L2.Ends} (R : EndsR K G E D3 De) (l : List (V × D)) : EndsR K G (E.add l) D3 De :=
  ⟨fun am M σ δ H S => R.nx am M σ δ H S.drop, fun am M σ δ H S => R.bk am M σ δ H S.drop, fun am M σ δ H S => R.ct am M σ δ H S.drop, R.rt⟩
theorem PV.of_add {am : Nat → Addr} {M : List Addr} {δ : St3} {H : Hp} {v : V} {d : D} {o : Bool} {l : List (V × D)} (h : PV K G (E.add l) am M δ H v o d) : PV K G E am M δ H v o d := by
  cases o with
  | false => exact h
  | true => exact h
theorem PV.ref {am : Nat → Addr} {M : List Addr} {δ : St3} {H : Hp} {v : V} {d : D} (h : PV K G E am M δ H v true d) : ∃ p, v = .ref p ∧ p ∈ M := by
  obtain ⟨p, e, hp, _⟩ := h
  exact ⟨p, e, hp⟩
theorem sim_par2 {i j : Nat} {oi oj : Bool} (ha : ∀ E, SimE K G E ta wa) (hb : ∀ E, SimE K G E tb wb) : SimS K G (tPar i j (tCons ta (tCons tb tNil))) (wPar2 i oi j oj wa wb) := fun E am M σ δ H S D3 q De R => by
  refine ha E am M σ δ H S _ q _ fun x rx δ1 H1 S1 e1 o1 v1 q => ?_
  -- the first one must be fit to be stored: told at the end; till then both ways
  by_cases k1 : okp oi rx
  · obtain ⟨M1, i1, T1, p1, n1⟩ := v1.pv S1 k1
    obtain ⟨l1, G1, b1⟩ := p1.ghost T1
    refine hb (E.add l1) am M1 σ δ1 H1 G1 _ q _ fun y ry δ2 H2 S2 e2 o2 v2 ⟨_, k2, q⟩ => ?_
    obtain ⟨M2, i2, T2, p2, n2⟩ := v2.pv S2 k2
    have q1 := b1 M2 δ2 H2 T2 e2 o2 i2
    obtain ⟨am1, U1, f1⟩ := PV.put (i := i) T2.drop q1 (okp_ni k1)
    have q2 := f1 y oj ry.d (fun z1 z2 e => by
      subst z1 z2
      obtain ⟨p, e', hp⟩ := p1.ref
      exact n2 rfl p (by rw [e, e']) hp) p2.of_add
    obtain ⟨am2, U2, _⟩ := PV.put (i := j) U1 q2 (okp_ni k2)
    exact ⟨x, y, rfl, R.nx _ _ _ _ _ U2 q⟩
  · refine hb E am M σ δ1 H1 S1 _ q _ fun y ry δ2 H2 S2 e2 o2 v2 ⟨k, _⟩ => (k1 k).elim
theorem sim_par3 {i j m : Nat} {oi oj om : Bool} (ha : ∀ E, SimE K G E ta wa) (hb : ∀ E, SimE K G E tb wb) (hc : ∀ E, SimE K G E tc wc) : SimS K G (tPar3 i j m (tCons ta (tCons tb (tCons tc tNil)))) (wPar3 i oi j oj m om wa wb wc) := fun E am M σ δ H S D3 q De R => by
  refine ha E am M σ δ H S _ q _ fun x rx δ1 H1 S1 e1 o1 v1 q => ?_
  by_cases k1 : okp oi rx
  · obtain ⟨M1, i1, T1, p1, n1⟩ := v1.pv S1 k1
    obtain ⟨l1, G1, b1⟩ := p1.ghost T1
    refine hb (E.add l1) am M1 σ δ1 H1 G1 _ q _ fun y ry δ2 H2 S2 e2 o2 v2 q => ?_
    by_cases k2 : okp oj ry
    · obtain ⟨M2, i2, T2, p2, n2⟩ := v2.pv S2 k2
      obtain ⟨l2, G2, b2⟩ := p2.ghost T2
      refine hc ((E.add l1).add l2) am M2 σ δ2 H2 G2 _ q _ fun z rz δ3 H3 S3 e3 o3 v3 ⟨_, _, k3, q⟩ => ?_
      obtain ⟨M3, i3, T3, p3, n3⟩ := v3.pv S3 k3
      have q2 := (b2 M3 δ3 H3 T3 e3 o3 i3).of_add
      have q1 := b1 M3 δ3 H3 T3.drop (e2.trans o2 e3) (fun i z => o2 i (o3 i z)) fun a z => i3 a (i2 a z)
      obtain ⟨am1, U1, f1⟩ := PV.put (i := i) T3.drop.drop q1 (okp_ni k1)
      have r2 := f1 y oj ry.d (fun z1 z2 e => by
        subst z1 z2
        obtain ⟨p, e', hp⟩ := p1.ref
        exact n2 rfl p (by rw [e, e']) hp) q2
      have r3 := f1 z om rz.d (fun z1 z2 e => by
        subst z1 z2
        obtain ⟨p, e', hp⟩ := p1.ref
        exact n3 rfl p (by rw [e, e']) (i2 p hp)) p3.of_add.of_add
      obtain ⟨am2, U2, f2⟩ := PV.put (i := j) U1 r2 (okp_ni k2)
      have s3 := f2 z om rz.d (fun z1 z2 e => by
        subst z1 z2
        obtain ⟨p, e', hp⟩ := p2.ref
        exact n3 rfl p (by rw [e, e']) hp) r3
      obtain ⟨am3, U3, _⟩ := PV.put (i := m) U2 s3 (okp_ni k3)
      exact ⟨x, y, z, rfl, R.nx _ _ _ _ _ U3 q⟩
    · refine hc _ am M1 σ δ2 H2 S2 _ q _ fun z rz δ3 H3 S3 e3 o3 v3 ⟨_, k, _⟩ => (k2 k).elim
  · refine hb E am M σ δ1 H1 S1 _ q _ fun y ry δ2 H2 S2 e2 o2 v2 q => ?_
    refine hc _ am M σ δ2 H2 S2 _ q _ fun z rz δ3 H3 S3 e3 o3 v3 ⟨k, _⟩ => (k1 k).elim
end
end L3
namespace L3
open PySem L2
def wLcGo (g : WG) (t : WT) (w : WE) (vs : List Nat) (Q : List D → St3 → Prop) : List D → List D → St3 → Prop
  | [], acc, δ => Q acc δ
  | x :: r, acc, δ => g x δ fun δ1 => t δ1 fun k δ2 =>
    (k = true → w δ2 fun q δ3 => ¬ q.bor ∧ acc.length < 16777216 ∧ wLcGo g t w vs Q r (acc ++ [q.d]) ⟨wipe3 δ3.sl vs, δ3.n⟩) ∧ (k = false → wLcGo g t w vs Q r acc ⟨wipe3 δ2.sl vs, δ2.n⟩)
@[simp] def wLc (wi : WI) (g : WG) (t : WT) (w : WE) (vs : List Nat) : WE := fun δ Q => wi δ fun ds δ1 => noOwn δ1.sl vs ∧
  wLcGo g t w vs (fun acc δ2 => Q (.fr (.lst acc)) ⟨unwipe δ1.sl δ2.sl vs, δ2.n⟩) ds [] ⟨wipe3 δ1.sl vs, δ1.n⟩
@[simp] def wYes : WT := fun δ Q => Q true δ
section
variable {X : Cx} {G : Gx} {K : PySem.W.Frag} {E : Ent}
theorem sim_yes : SimT K G E tYes wYes := fun am M σ δ H S Qd h Q k => k true δ H S .refl (fun _ z => z) h
theorem line16 : sizeLine = 16777216 := by decide
theorem unwipe_own {sl0 sl : List (Option SV)} {n m : Nat} {i : Nat} {vs : List Nat} (no : noOwn sl0 vs) (h : isOwn ⟨unwipe sl0 sl vs, n⟩ i) : isOwn ⟨sl, m⟩ i := by
  obtain ⟨d, h⟩ := h
  rcases unwipe_get h with ⟨_, z⟩ | ⟨z, w⟩
  · exact ⟨d, z⟩
  · exact (no.at z w).elim
theorem sim_lc {ti : TI} {wi : WI} {g : TG} {wg : WG} {us vs : List Nat} {tt : TT} {wt : WT} {te : TE} {we : WE} (hi : ∀ E, SimI K G E ti wi) (hg : SimG K G us g wg) (hu : ∀ u ∈ us, u ∈ vs) (ht : ∀ E, SimT K G E tt wt) (he : ∀ E, SimE K G E te we) : SimE K G E (tLc ti g tt te vs) (wLc wi wg wt we vs) := fun am M σ δ H S Qd q Q k => by
  refine hi E am M σ δ H S _ q _ fun J items gh δ1 H1 S1 e1 o1 ok ⟨no, q⟩ => fun p hp => ?_
  have sm := same_new (o := .lst []) hp
  have T0 := S1.more (p := p) hp sm (by rw [upd_same]; simp)
  have T1 := T0.wiped vs
  have pM : p ∉ M := fun z => S1.al p z hp
  refine ⟨fun i m H => m = items.length - i ∧ i ≤ items.length ∧ ∃ (δ : St3) (acc : List D) (xs : List V), SR K G (E.add gh) am (p :: M) (wipe σ vs) δ H ∧ H p = some (.lst xs) ∧ RepAll K G (mask (p :: M) H) xs acc ∧
      Ext G am δ1 H1 H ∧ (∀ i, isOwn δ i → isOwn δ1 i) ∧ wLcGo wg wt we vs (fun acc δ2 => Qd (.fr (.lst acc)) ⟨unwipe δ1.sl δ2.sl vs, δ2.n⟩) (items.drop i) acc δ,
    ⟨_, rfl, Nat.zero_le _, _, [], [], T1, upd_same, rfl, Ext.of sm, fun i z => wipe3_own z, q⟩, ?_⟩
  rintro i m H ⟨rfl, hle, δ, acc, xs, S, hx, rx, ex, ox, q⟩
  obtain ⟨j1, j2⟩ := ok _ _ _ _ _ _ S fun p hp => List.mem_append_left _ hp
  have pOwn : ∀ i, isOwn δ1 i → am i ≠ p := fun i ⟨d, hi⟩ z => pM (z ▸ (S1.ow i d hi).2.1)
  have pDk : p ∉ G.dk := fun z => pM (S1.ads p (S1.dks p z))
  by_cases hlt : i < items.length
  · have hd : items[i]? = some items[i] := List.getElem?_eq_getElem hlt
    obtain ⟨g1, g2⟩ := j2 i _ hd
    rw [List.drop_eq_getElem_cons hlt] at q
    refine .inr ⟨g1, fun H' => ∃ (δ : St3) (acc : List D) (xs : List V), SR K G (E.add gh) am (p :: M) (wipe σ vs) δ H' ∧ H' p = some (.lst xs) ∧ RepAll K G (mask (p :: M) H') xs acc ∧
      Ext G am δ1 H1 H' ∧ (∀ i, isOwn δ i → isOwn δ1 i) ∧ wLcGo wg wt we vs (fun acc δ2 => Qd (.fr (.lst acc)) ⟨unwipe δ1.sl δ2.sl vs, δ2.n⟩) (items.drop (i + 1)) acc δ, fun H' z => ⟨_, by omega, rfl, hlt, z⟩, fun x H' hy => ?_⟩
    obtain ⟨sm2, rx2⟩ := g2 x H' hy
    have S' := S.grow sm2
    refine hg _ am (p :: M) _ δ H' S' x _ rx2 _ q _ fun σ2 δ2 S2 w2 o2 q => ?_
    have hw : wipe σ2 vs = wipe σ vs := (w2 vs hu).trans wipe_wipe
    refine ⟨hw, ?_⟩
    refine ht _ am (p :: M) σ2 δ2 H' S2 _ q _ fun b δ3 H3 S3 e3 o3 q => ?_
    have keep : ∀ {H4 : Hp} {δ4 : St3}, Ext G am δ4 H' H4 → (∀ i, isOwn δ4 i → isOwn δ1 i) → ∀ o, H p = some o → H4 p = some o := fun e o u hu => e p u (sm2 _ _ hu) pDk fun i hi => pOwn i (o i hi)
    have ext3 : Ext G am δ1 H1 H3 := (ex.trans ox (Ext.of (δ := δ) sm2)).trans (fun i z => ox i (o2 i z)) e3
    have own3 : ∀ i, isOwn δ3 i → isOwn δ1 i := fun i z => ox i (o2 i (o3 i z))
    cases b with
    | false =>
      rw [if_neg Bool.false_ne_true]
      have T := S3.wiped vs
      rw [hw] at T
      exact ⟨_, acc, xs, T, keep e3 (fun i z => ox i (o2 i z)) _ hx, (rx.mono (mask_mono sm2)).mono (S2.mask e3), ext3, fun i z => own3 i (wipe3_own z), q.2 rfl⟩
    | true =>
      rw [if_pos rfl]
      refine he _ am (p :: M) σ2 δ3 H3 S3 _ (q.1 rfl) _ fun y ry δ4 H4 S4 e4 o4 v4 ⟨nb, sz, q⟩ => ?_
      have h4 : H4 p = some (.lst xs) := e4 p _ (keep e3 (fun i z => ox i (o2 i z)) _ hx) pDk fun i hi => pOwn i (own3 i hi)
      have r4 : RepAll K G (mask (p :: M) H4) xs acc := ((rx.mono (mask_mono sm2)).mono (S2.mask e3)).mono (S3.mask e4)
      refine ⟨xs, h4, by rw [r4.length, line16]; exact sz, ?_⟩
      have T4 : SR K G (E.add gh) am (p :: M) σ2 δ4 (upd H4 p (.lst (xs ++ [y]))) := by
        refine ⟨S4.len, fun j d h => ?_, fun j d h => ?_, S4.inj, S4.ads, S4.dks, fun a ha => ?_, fun b o hb kb => ?_, ?_, fun g hg => ?_, S4.slf⟩
        · rw [mask_upd List.mem_cons_self]; exact S4.sh j d h
        · obtain ⟨a1, a2, a3, a4, a5⟩ := S4.ow j d h
          refine ⟨a1, a2, a3, a4, a5.to (by rw [mask_upd List.mem_cons_self]; exact Same.refl _) fun o e => ?_⟩
          rw [upd_ne (pOwn j (own3 j (o4 j ⟨d, h⟩)))]; exact e
        · by_cases z : a = p
          · subst z; rw [upd_same]; simp
          · rw [upd_ne z]; exact S4.al a ha
        · have := S4.base b o hb kb
          have ne : b ≠ p := fun z => by
            subst z
            have h0 := S1.base _ o hb kb
            rw [hp] at h0; cases h0
          rw [upd_ne ne]; exact this
        · refine G.frame _ _ _ (fun a ha o e => ?_) S4.di
          rw [upd_ne fun z => pDk (by rw [← z]; exact ha)]; exact e
        · rw [mask_upd List.mem_cons_self]; exact S4.gh g hg
      have T := T4.wiped vs
      rw [hw] at T
      refine ⟨_, acc ++ [ry.d], xs ++ [y], T, upd_same, ?_, fun b o hb kb ho => ?_, fun i z => own3 i (o4 i (wipe3_own z)), q⟩
      · rw [mask_upd List.mem_cons_self]
        exact r4.append (RepAll.one (v4.k.rep nb))
      · have ne : b ≠ p := fun z => by subst z; rw [hp] at hb; cases hb
        rw [upd_ne ne]
        exact (ext3.trans own3 e4) b o hb kb ho
  · have e : i = items.length := by omega
    subst e
    rw [List.drop_length] at q
    refine .inl ⟨j1 _ rfl, ?_⟩
    have smk : Same (mask (p :: M) H1) (mask (p :: M) H) := mask_same fun b o hb h => ex b o h (fun z => hb (List.mem_cons_of_mem _ (S1.ads b (S1.dks b z)))) fun i ⟨d, hi⟩ z => hb (z ▸ List.mem_cons_of_mem _ (S1.ow i d hi).2.1)
    have B : SR K G (E.add gh) am (p :: M) σ ⟨unwipe δ1.sl δ.sl vs, δ.n⟩ H := S1.back S (fun a z => List.mem_cons_of_mem _ z) no smk fun i d hi v hv => by
      obtain ⟨v', a, b⟩ := S1.sh i d hi
      rw [hv] at a
      cases a
      exact b.mono (mask_new hp (Same.refl _))
    have own : ∀ i, isOwn ⟨unwipe δ1.sl δ.sl vs, δ.n⟩ i → isOwn δ1 i := fun i z => ox i (unwipe_own no z)
    have B2 : SR K G (E.add gh) am M σ ⟨unwipe δ1.sl δ.sl vs, δ.n⟩ H := B.less (fun a z => List.mem_cons_of_mem _ z) S1.ads fun j d h => by
      obtain ⟨d', h'⟩ := own j ⟨d, h⟩
      exact (S1.ow j d' h').2.1
    refine k (.ref p) (.fr (.lst acc)) _ H B2.drop (e1.trans o1 ex) (fun i z => o1 i (own i z)) ⟨p, rfl, pM, ?_, ⟨xs, hx, rx⟩, B.drop⟩ q
    cases z : E.H0 p with
    | none => rfl
    | some o => exact absurd (S1.base p o z pDk) (by rw [hp]; simp)
end
/-- a clause's tests -/
structure DTs (X : Cx) (G : Gx) (ifs : List Expr) (tt : TT) (w : WT) : Prop where
  pt : PTs X ifs tt
  sim : ∀ E, SimT X.K G E tt w
section
variable {X : Cx} {G : Gx} {E : Ent}
theorem dts_nil : DTs X G [] tYes wYes := ⟨pts_nil, fun _ => sim_yes⟩
theorem dts_one {c : Expr} {t : TT} {w : WT} (h : DT X G c t w) : DTs X G [c] t w := ⟨pts_one h.pt, h.sim⟩
variable {elt tg iter : Expr} {ifs : List Expr} {scope : Scope} {own : List (Str × Nat)} {pos spos py : Pos} {ti : TI} {wi : WI} {g : TG} {wg : WG} {us : List Nat} {tt : TT} {wt : WT} {te : TE} {we : WE} {i : Nat} {y : Str}
theorem de_lc (hc : X.calm = true) (hN : X.N.Nodup) (hi : DI X G tg iter ti wi) (ok : BlkOk X.N X.env.scope scope own)
    (hg : ∀ (s : Shared) (H : Hp) (C : Addr) (cl : List (Str × Addr)) (fp : List Addr), DG (X.blk s H scope (compEnvC scope cl C X.env) fp) G tg us g wg) (ht : ∀ (s : Shared) (H : Hp) (C : Addr) (cl : List (Str × Addr)) (fp : List Addr), DTs (X.blk s H scope (compEnvC scope cl C X.env) fp) G ifs tt wt)
    (he : ∀ (s : Shared) (H : Hp) (C : Addr) (cl : List (Str × Addr)) (fp : List Addr), DE (X.blk s H scope (compEnvC scope cl C X.env) fp) G elt te we) (hu : ∀ u ∈ us, u ∈ own.map (·.2)) (hs : ∀ x, foldedSetIterable iter X.env x = pure x := by intro _; rfl) :
    DE X G (.ListComp elt [⟨tg, iter, ifs, 0⟩] scope pos) (tLc ti g tt te (own.map (·.2))) (wLc wi wg wt we (own.map (·.2))) :=
  ⟨pe_lc hc hN hi.pi ok (fun s H C cl fp => (hg s H C cl fp).pg) (fun s H C cl fp => (ht s H C cl fp).pt) (fun s H C cl fp => (he s H C cl fp).pe) hs,
    fun E => sim_lc hi.sim (hg X.s_0 (fun _ => none) 0 [] []).sim hu (ht X.s_0 (fun _ => none) 0 [] []).sim (he X.s_0 (fun _ => none) 0 [] []).sim⟩
theorem ds_setLc (hc : X.calm = true) (hN : X.N.Nodup) (hy : X.N[i]? = some y) (hyl : X.env.scope.names.lookup y = some .local)
    (hsw : swapsWith (.ListComp elt [⟨tg, iter, ifs, 0⟩] scope pos) (some (.Name y py)) spos.line X.env = pure true) (hi : DI X G tg iter ti wi) (ok : BlkOk X.N X.env.scope scope own)
    (hg : ∀ (s : Shared) (H : Hp) (C : Addr) (cl : List (Str × Addr)) (fp : List Addr), DG (X.blk s H scope (compEnvC scope cl C X.env) fp) G tg us g wg) (ht : ∀ (s : Shared) (H : Hp) (C : Addr) (cl : List (Str × Addr)) (fp : List Addr), DTs (X.blk s H scope (compEnvC scope cl C X.env) fp) G ifs tt wt)
    (he : ∀ (s : Shared) (H : Hp) (C : Addr) (cl : List (Str × Addr)) (fp : List Addr), DE (X.blk s H scope (compEnvC scope cl C X.env) fp) G elt te we) (hu : ∀ u ∈ us, u ∈ own.map (·.2)) (hs : ∀ x, foldedSetIterable iter X.env x = pure x := by intro _; rfl) :
    DS X G (.Assign [.Name y py] (.ListComp elt [⟨tg, iter, ifs, 0⟩] scope pos) spos) (tAsg (tLc ti g tt te (own.map (·.2))) (gName i)) (wAsg i (wLc wi wg wt we (own.map (·.2)))) :=
  ⟨ps_setLc hc hN hy hyl hsw hi.pi ok (fun s H C cl fp => (hg s H C cl fp).pg) (fun s H C cl fp => (ht s H C cl fp).pt) (fun s H C cl fp => (he s H C cl fp).pe) hs,
    sim_asg fun E => sim_lc hi.sim (hg X.s_0 (fun _ => none) 0 [] []).sim hu (ht X.s_0 (fun _ => none) 0 [] []).sim (he X.s_0 (fun _ => none) 0 [] []).sim⟩
theorem ds_setLcO (hc : X.calm = true) (hN : X.N.Nodup) (hy : X.N[i]? = some y) (hyl : X.env.scope.names.lookup y = some .local)
    (hsw : swapsWith (.ListComp elt [⟨tg, iter, ifs, 0⟩] scope pos) (some (.Name y py)) spos.line X.env = pure true) (hi : DI X G tg iter ti wi) (ok : BlkOk X.N X.env.scope scope own)
    (hg : ∀ (s : Shared) (H : Hp) (C : Addr) (cl : List (Str × Addr)) (fp : List Addr), DG (X.blk s H scope (compEnvC scope cl C X.env) fp) G tg us g wg) (ht : ∀ (s : Shared) (H : Hp) (C : Addr) (cl : List (Str × Addr)) (fp : List Addr), DTs (X.blk s H scope (compEnvC scope cl C X.env) fp) G ifs tt wt)
    (he : ∀ (s : Shared) (H : Hp) (C : Addr) (cl : List (Str × Addr)) (fp : List Addr), DE (X.blk s H scope (compEnvC scope cl C X.env) fp) G elt te we) (hu : ∀ u ∈ us, u ∈ own.map (·.2)) (hs : ∀ x, foldedSetIterable iter X.env x = pure x := by intro _; rfl) :
    DS X G (.Assign [.Name y py] (.ListComp elt [⟨tg, iter, ifs, 0⟩] scope pos) spos) (tAsg (tLc ti g tt te (own.map (·.2))) (gName i)) (wAsgO i (wLc wi wg wt we (own.map (·.2)))) :=
  ⟨ps_setLc hc hN hy hyl hsw hi.pi ok (fun s H C cl fp => (hg s H C cl fp).pg) (fun s H C cl fp => (ht s H C cl fp).pt) (fun s H C cl fp => (he s H C cl fp).pe) hs,
    sim_asgO fun E => sim_lc hi.sim (hg X.s_0 (fun _ => none) 0 [] []).sim hu (ht X.s_0 (fun _ => none) 0 [] []).sim (he X.s_0 (fun _ => none) 0 [] []).sim⟩

variable {st : Stmt} {sts a b : List Stmt} {e c : Expr} {t u : TS} {w w' : WS}
theorem dss_nil : DSs X G [] tNext wNext := ⟨pss_nil, sim_next⟩
theorem dss_cons (h1 : DS X G st t w) (h2 : DSs X G sts u w') : DSs X G (st :: sts) (tSeq t u) (wSeq w w') := ⟨pss_cons h1.ps h2.ps, sim_seq h1.sim h2.sim⟩
theorem dss_one (h1 : DS X G st t w) : DSs X G [st] t w := ⟨pss_one h1.ps, h1.sim⟩
theorem dss_free (i : Nat) (h1 : DSs X G sts t w) : DSs X G sts t (wFree i w) := ⟨h1.ps, sim_free h1.sim⟩
theorem ds_pass : DS X G (.Pass pos) tNext wNext := ⟨ps_pass, sim_next⟩
theorem ds_break : DS X G (.Break pos) tBreak wBrk := ⟨ps_break, sim_brk⟩
theorem ds_continue : DS X G (.Continue pos) tCont wCnt := ⟨ps_continue, sim_cnt⟩
theorem ds_expr (he : DE X G e te we) (hs : swapsWith e none pos.line X.env = pure false := by rfl) : DS X G (.Expr e pos) (tDrop te) (wDrop we) := ⟨ps_expr he.pe hs, sim_drop he.sim⟩
theorem ds_ret (he : DE X G e te we) : DS X G (.Return (some e) pos) (tRet te) (wRet we) := ⟨ps_ret he.pe, sim_ret he.sim⟩
theorem ds_retN : DS X G (.Return none pos) tRetN wRetN := ⟨ps_retN, sim_retN⟩
theorem ds_if (hc : DT X G c tt wt) (ha : DSs X G a t w) (hb : DSs X G b u w') : DS X G (.If c a b pos) (tIfS tt t u) (wIfS wt w w') := ⟨ps_if hc.pt ha.ps hb.ps, sim_ifS hc.sim ha.sim hb.sim⟩
theorem ds_set (i : Nat) {x : Str} (hN : X.N.Nodup) (he : DE X G e te we) (hi : X.N[i]? = some x := by rfl) (hx : Loc X.env.scope x := by first | exact Or.inl rfl | exact Or.inr rfl) (hs : swapsWith e (some (.Name x py)) pos.line X.env = pure false := by rfl)
    (hf : X.fn x = true ∨ X.env.scope.names.lookup x = some .local := by first | exact .inl rfl | exact .inr rfl) : DS X G (.Assign [.Name x py] e pos) (tAsg te (gName i)) (wAsg i we) := ⟨ps_set hN hi hx he.pe hs hf, sim_asg he.sim⟩
theorem ds_setO (i : Nat) {x : Str} (hN : X.N.Nodup) (he : DE X G e te we) (hi : X.N[i]? = some x := by rfl) (hx : Loc X.env.scope x := by first | exact Or.inl rfl | exact Or.inr rfl) (hs : swapsWith e (some (.Name x py)) pos.line X.env = pure false := by rfl)
    (hf : X.fn x = true ∨ X.env.scope.names.lookup x = some .local := by first | exact .inl rfl | exact .inr rfl) : DS X G (.Assign [.Name x py] e pos) (tAsg te (gName i)) (wAsgO i we) := ⟨ps_set hN hi hx he.pe hs hf, sim_asgO he.sim⟩
theorem ds_asg (he : DE X G e te we) (hg : DG X G tg us g wg) (hs : swapsWithSole [tg] e pos.line X.env = pure false := by rfl) (hw : swappedStores [tg] e X.env = pure none := by rfl)
    (h1 : (assignEach [tg] X.env).map (·.2) = [assign tg X.env] := by rfl) : DS X G (.Assign [tg] e pos) (tAsg te g) (wAsgG wg we) := ⟨ps_asg he.pe hg.pg hs hw h1, sim_asgG he.sim hg.sim⟩
theorem ds_for (hp : PassesOwn (model X.prog X.w) X.A X.env X.xe) (hc : X.calm = true) (hi : DI X G tg iter ti wi) (hg : DG X G tg us g wg) (hb : DSs X G a t w) (hs : ∀ x, foldedSetIterable iter X.env x = pure x := by intro _; rfl) :
    DS X G (.For tg iter a [] pos) (tFor ti g t) (wFor wi wg w) := ⟨ps_for hp hc hi.pi hg.pg hb.ps hs, sim_for hi.sim hg.sim hb.sim⟩
theorem ds_while (hp : PassesOwn (model X.prog X.w) X.A X.env X.xe) (hc : DT X G c tt wt) (hb : DSs X G a t w) : DS X G (.While c a [] pos) (tWhile tt t) (wWhile wt w) := ⟨ps_while hp hc.pt hb.ps, sim_while hc.sim hb.sim⟩
variable {e1 e2 e3 : Expr} {t1 t2 t3 : TE} {w1 w2 w3 : WE} {x y' z : Str} {px py' pz pt pt2 : Pos} {i' j l : Nat} {oi oj ol : Bool}
theorem ds_par2 (i' : Nat) (oi : Bool) (j : Nat) (oj : Bool) {kt k2} (hc : X.calm = true) (hN : X.N.Nodup) (h1 : DE X G e1 t1 w1) (h2 : DE X G e2 t2 w2) (hij : i' ≠ j := by decide) (hi : X.N[i']? = some x := by rfl) (hj : X.N[j]? = some y' := by rfl)
    (hx : X.env.scope.names.lookup x = some .local := by rfl) (hy : X.env.scope.names.lookup y' = some .local := by rfl) (hst : starEach [e1, e2] X.env = (false, eval e1 X.env) :: starEach [e2] X.env := by rfl) (hst2 : starEach [e2] X.env = (false, eval e2 X.env) :: starEach [] X.env := by rfl)
    (hw : swappedStores [.Tuple [.Name x px, .Name y' py'] kt pt] (.Tuple [e1, e2] k2 pt2) X.env = pure (some [x, y']) := by rfl)
    (hs : swapsWithSole [.Tuple [.Name x px, .Name y' py'] kt pt] (.Tuple [e1, e2] k2 pt2) pos.line X.env = pure false := by rfl) :
    DS X G (.Assign [.Tuple [.Name x px, .Name y' py'] kt pt] (.Tuple [e1, e2] k2 pt2) pos) (tPar i' j (tCons t1 (tCons t2 tNil))) (wPar2 i' oi j oj w1 w2) :=
  ⟨ps_par hc hN hi hj hij hx hy (pa_cons h1.pe (pa_cons h2.pe pa_nil hst2) hst) hw hs, sim_par2 h1.sim h2.sim⟩
theorem ds_par3 (i' : Nat) (oi : Bool) (j : Nat) (oj : Bool) (l : Nat) (ol : Bool) {kt k2} (hc : X.calm = true) (hN : X.N.Nodup) (h1 : DE X G e1 t1 w1) (h2 : DE X G e2 t2 w2) (h3 : DE X G e3 t3 w3) (hij : i' ≠ j := by decide) (hil : i' ≠ l := by decide) (hjl : j ≠ l := by decide)
    (hi : X.N[i']? = some x := by rfl) (hj : X.N[j]? = some y' := by rfl) (hl : X.N[l]? = some z := by rfl)
    (hx : X.env.scope.names.lookup x = some .local := by rfl) (hy : X.env.scope.names.lookup y' = some .local := by rfl) (hz : X.env.scope.names.lookup z = some .local := by rfl)
    (hst : starEach [e1, e2, e3] X.env = (false, eval e1 X.env) :: starEach [e2, e3] X.env := by rfl) (hst2 : starEach [e2, e3] X.env = (false, eval e2 X.env) :: starEach [e3] X.env := by rfl) (hst3 : starEach [e3] X.env = (false, eval e3 X.env) :: starEach [] X.env := by rfl)
    (hw : swappedStores [.Tuple [.Name x px, .Name y' py', .Name z pz] kt pt] (.Tuple [e1, e2, e3] k2 pt2) X.env = pure (some [x, y', z]) := by rfl)
    (hs : swapsWithSole [.Tuple [.Name x px, .Name y' py', .Name z pz] kt pt] (.Tuple [e1, e2, e3] k2 pt2) pos.line X.env = pure false := by rfl) :
    DS X G (.Assign [.Tuple [.Name x px, .Name y' py', .Name z pz] kt pt] (.Tuple [e1, e2, e3] k2 pt2) pos) (tPar3 i' j l (tCons t1 (tCons t2 (tCons t3 tNil)))) (wPar3 i' oi j oj l ol w1 w2 w3) :=
  ⟨ps_par3 hc hN hi hj hl hij hil hjl hx hy hz (pa_cons h1.pe (pa_cons h2.pe (pa_cons h3.pe pa_nil hst3) hst2) hst) hw hs, sim_par3 h1.sim h2.sim h3.sim⟩
end
end L3
namespace L3
open PySem L2
mutual
def D.py : D → Option PyData
  | .non => some .none
  | .bl b => some (.bool b)
  | .int i => some (.int i)
  | .str x => some (.str x)
  | .lst ds => (D.pys ds).map .list
  | .tup ds => (D.pys ds).map .tuple
  | .dct _ _ => none
  | .ins _ _ => none
  | .deck => none
  | .cls _ => none
  | .raw _ _ => none
  | .ptup ds => (D.pys ds).map .tuple
def D.pys : List D → Option (List PyData)
  | [] => some []
  | d :: ds => (D.py d).bind fun p => (D.pys ds).map fun ps => p :: ps
end
section
variable {K : PySem.W.Frag} {G : Gx} {H : Hp}
mutual
theorem Rep.dp : ∀ (d : D) {v : V} {p : PyData}, d.py = some p → Rep K G H v d → Dp K H v p
  | .non, v, p, e, r => by
    have e : p = .none := (Option.some.inj (by simpa [D.py] using e)).symm
    have r : v = .non := r
    subst e r
    exact .non
  | .bl b, v, p, e, r => by
    have e : p = .bool b := (Option.some.inj (by simpa [D.py] using e)).symm
    have r : v = .bl b := r
    subst e r
    exact .bl b
  | .int i, v, p, e, r => by
    have e : p = .int i := (Option.some.inj (by simpa [D.py] using e)).symm
    have r : v = .int i := r
    subst e r
    exact .int i
  | .str x, v, p, e, r => by
    have e : p = .str x := (Option.some.inj (by simpa [D.py] using e)).symm
    have r : v = .str x := r
    subst e r
    exact .str x
  | .lst ds, v, p, e, ⟨a, xs, h1, h2, h3⟩ => by
    unfold D.py at e
    obtain ⟨ps, e1, e2⟩ := Option.map_eq_some_iff.mp e
    subst e2 h1
    exact .lst (SqL.of h2) (RepAll.dp ds e1 h3)
  | .tup ds, v, p, e, ⟨a, xs, h1, h2, h3⟩ => by
    unfold D.py at e
    obtain ⟨ps, e1, e2⟩ := Option.map_eq_some_iff.mp e
    subst e2 h1
    exact .tup h2 (RepAll.dp ds e1 h3)
  | .dct _ _, _, _, e, _ => by simp [D.py] at e
  | .ins _ _, _, _, e, _ => by simp [D.py] at e
  | .deck, _, _, e, _ => by simp [D.py] at e
  | .cls _, _, _, e, _ => by simp [D.py] at e
  | .raw _ _, _, _, e, _ => by simp [D.py] at e
  | .ptup ds, v, p, e, ⟨a, xs, o, h1, h2, _, _, h3⟩ => by
    unfold D.py at e
    obtain ⟨ps, e1, e2⟩ := Option.map_eq_some_iff.mp e
    subst e2 h1
    exact .tup (.inl (.inr ⟨o, h2⟩)) (RepAll.dp ds e1 h3)
theorem RepAll.dp : ∀ (ds : List D) {vs : List V} {ps : List PyData}, D.pys ds = some ps → RepAll K G H vs ds → DpAll K H vs ps
  | [], vs, ps, e, r => by
    have e : ps = [] := (Option.some.inj (by simpa [D.pys] using e)).symm
    have r : vs = [] := r
    subst e r
    exact .nil
  | d :: ds, vs, ps, e, ⟨x, xs, h1, h2, h3⟩ => by
    unfold D.pys at e
    obtain ⟨p, e1, e2⟩ := Option.bind_eq_some_iff.mp e
    obtain ⟨qs, e3, e4⟩ := Option.map_eq_some_iff.mp e2
    subst e4 h1
    exact .cons (Rep.dp d e1 h2) (RepAll.dp ds e3 h3)
end
theorem pys_ints : ∀ ns : List Int, D.pys (ns.map D.int) = some (ns.map PyData.int)
  | [] => by simp [D.pys]
  | n :: ns => by simp [D.pys, D.py, pys_ints ns]
theorem py_int (i : Int) : (D.int i).py = some (.int i) := by simp [D.py]
theorem py_bl (i : Bool) : (D.bl i).py = some (.bool i) := by simp [D.py]
theorem py_str (i : Str) : (D.str i).py = some (.str i) := by simp [D.py]
theorem py_non : D.non.py = some .none := by simp [D.py]
theorem py_ints (ns : List Int) : (D.lst (ns.map D.int)).py = some (.list (ns.map PyData.int)) := by simp [D.py, pys_ints]
theorem py_tints (ns : List Int) : (D.tup (ns.map D.int)).py = some (.tuple (ns.map PyData.int)) := by simp [D.py, pys_ints]
end

section
variable {K : PySem.W.Frag} {G : Gx} {M : List Addr} {H H' : Hp}
theorem rn_int {i : Int} : RN K G M H H' (.int i) (.sh (.int i)) := rfl
theorem rn_bl {i : Bool} : RN K G M H H' (.bl i) (.sh (.bl i)) := rfl
theorem rn_str {i : Str} : RN K G M H H' (.str i) (.sh (.str i)) := rfl
theorem rn_non : RN K G M H H' .non (.sh .non) := rfl
theorem rn_sh {v : V} {d : D} (h : Rep K G (mask M H') v d) : RN K G M H H' v (.sh d) := h
theorem rn_lst {p : Addr} {xs : List V} {ds : List D} (hp : H p = none) (r : RepAll K G (mask M H) xs ds) : RN K G M H (upd H p (.lst xs)) (.ref p) (.fr (.lst ds)) := ⟨p, rfl, hp, xs, upd_same, r.mono (mask_new hp (same_new hp))⟩
theorem rn_tup {p : Addr} {xs : List V} {ds : List D} (al : ∀ a ∈ M, H a ≠ none) (hp : H p = none) (r : RepAll K G (mask M H) xs ds) : RN K G M H (upd H p (.tup xs)) (.ref p) (.sh (.tup ds)) :=
  ⟨p, xs, rfl, SqT.of (by rw [mask_out fun z => al p z hp, upd_same]), r.mono (mask_mono (same_new hp))⟩
theorem RB.shT {v : V} {ds : List D} (h : RB K G M H v (.tup ds)) : Rep K G (mask M H) v (.tup ds) := by
  rcases h with z | ⟨p, z, w⟩
  · exact z
  · exact w.elim
theorem RB.dp {v : V} {d : D} {p : PyData} (h : RB K G M H v d) (e : d.py = some p) : Dp K H v p := Rep.dp d e h.full
end
def fNeg : F1
  | .int i, Q => Q (.sh (.int (-i)))
  | _, _ => False
@[simp] theorem fNeg_0  (i : Int) (Q : RD → Prop) : fNeg (.int i) Q = (Q (.sh (.int (-i)))) := rfl
def fI (C : Int → Int → Prop) (g : Int → Int → Int) : F2
  | .int i, .int j, Q => C i j ∧ Q (.sh (.int (g i j)))
  | _, _, _ => False
@[simp] theorem fI_0 (C : Int → Int → Prop) (g : Int → Int → Int) (i : Int) (j : Int) (Q : RD → Prop) : fI C g (.int i) (.int j) Q = (C i j ∧ Q (.sh (.int (g i j)))) := rfl
def fIB (g : Int → Int → Bool) : F2
  | .int i, .int j, Q => Q (.sh (.bl (g i j)))
  | _, _, _ => False
@[simp] theorem fIB_0 (g : Int → Int → Bool) (i : Int) (j : Int) (Q : RD → Prop) : fIB g (.int i) (.int j) Q = (Q (.sh (.bl (g i j)))) := rfl
section
variable {X : Cx} {K : PySem.W.Frag} {G : Gx}
theorem ops_I {C : Int → Int → Prop} {g : Int → Int → Int} : OpS K G (rI C fun i j => .int (g i j)) (fI C g) := fun M H x y d e al bx by' Qd h Q k => by
  cases d <;> cases e <;> first | exact h.elim | skip
  obtain ⟨hc, h⟩ := h
  exact ⟨_, _, bx.int, by'.int, hc, k _ _ H (Same.refl _) rn_int h⟩
theorem ops_I0 {g : Int → Int → Int} : OpS K G (rI0 fun i j => .int (g i j)) (fI (fun _ _ => True) g) := fun M H x y d e al bx by' Qd h Q k => by
  cases d <;> cases e <;> first | exact h.elim | skip
  obtain ⟨_, h⟩ := h
  exact ⟨_, _, bx.int, by'.int, k _ _ H (Same.refl _) rn_int h⟩
theorem ops_IB {g : Int → Int → Bool} : OpS K G (rI0 fun i j => .bl (g i j)) (fIB g) := fun M H x y d e al bx by' Qd h Q k => by
  cases d <;> cases e <;> first | exact h.elim | skip
  exact ⟨_, _, bx.int, by'.int, k _ _ H (Same.refl _) rn_bl h⟩
theorem OpS.or {r r' : R2} {f f' g : F2} (h : OpS K G r f) (h' : OpS K G r' f') (hg : ∀ d e Q, g d e Q → f d e Q ∨ f' d e Q) : OpS K G (fun x y H Q => r x y H Q ∨ r' x y H Q) g := fun M H x y d e al bx by' Qd q Q k => by
  rcases hg d e Qd q with q | q
  · exact .inl (h M H x y d e al bx by' Qd q Q k)
  · exact .inr (h' M H x y d e al bx by' Qd q Q k)
def fAdd : F2
  | .int i, .int j, Q => Q (.sh (.int (i + j)))
  | .str i, .str j, Q => i.length + j.length ≤ 16777216 ∧ Q (.sh (.str (i ++ j)))
  | .lst i, .lst j, Q => i.length + j.length ≤ 16777216 ∧ Q (.fr (.lst (i ++ j)))
  | .tup i, .tup j, Q => i.length + j.length ≤ 16777216 ∧ Q (.sh (.tup (i ++ j)))
  | _, _, _ => False
@[simp] theorem fAdd_0  (i : Int) (j : Int) (Q : RD → Prop) : fAdd (.int i) (.int j) Q = (Q (.sh (.int (i + j)))) := rfl
@[simp] theorem fAdd_1  (i : Str) (j : Str) (Q : RD → Prop) : fAdd (.str i) (.str j) Q = (i.length + j.length ≤ 16777216 ∧ Q (.sh (.str (i ++ j)))) := rfl
@[simp] theorem fAdd_2  (i : List D) (j : List D) (Q : RD → Prop) : fAdd (.lst i) (.lst j) Q = (i.length + j.length ≤ 16777216 ∧ Q (.fr (.lst (i ++ j)))) := rfl
@[simp] theorem fAdd_3  (i : List D) (j : List D) (Q : RD → Prop) : fAdd (.tup i) (.tup j) Q = (i.length + j.length ≤ 16777216 ∧ Q (.sh (.tup (i ++ j)))) := rfl
def rAddA (K : PySem.W.Frag) : R2 := fun x y H Q => (rI0 fun i j => .int (i + j)) x y H Q ∨ (∃ i j, x = .str i ∧ y = .str j ∧ i.length + j.length ≤ sizeLine ∧ Q (.str (i ++ j)) H) ∨ rCat x y H Q ∨ rCatA K x y H Q
theorem op_addA : OpR X (binaryOp .Add) (rAddA X.K) := op_add.or (op_add_str.or (op_cat.or op_catA))
theorem ops_add : OpS K G (rAddA K) fAdd := fun M H x y d e al bx by' Qd h Q k => by
  cases d <;> cases e <;> first | exact h.elim | skip
  · exact .inl ⟨_, _, bx.int, by'.int, k _ _ H (Same.refl _) rn_int h⟩
  · obtain ⟨hc, h⟩ := h
    exact .inr (.inl ⟨_, _, bx.str, by'.str, by rw [line16]; exact hc, k _ _ H (Same.refl _) rn_str h⟩)
  · obtain ⟨hc, h⟩ := h
    obtain ⟨a, xs, rfl, ha, ra⟩ := bx.lst
    obtain ⟨b, ys, rfl, hb, rb⟩ := by'.lst
    exact .inr (.inr (.inl ⟨a, b, xs, ys, rfl, rfl, ha, hb, by rw [ra.length, rb.length, line16]; exact hc, fun p hp => k _ _ _ (same_new hp) (rn_lst hp (ra.append rb)) h⟩))
  · obtain ⟨hc, h⟩ := h
    obtain ⟨a, xs, rfl, ha, ra⟩ := bx.tup
    obtain ⟨b, ys, rfl, hb, rb⟩ := by'.tup
    refine .inr (.inr (.inr ⟨a, b, xs, ys, rfl, rfl, ha, hb, by rw [ra.length, rb.length, line16]; exact hc, fun q => ?_, fun _ q => ?_, fun _ _ p hp => k _ _ _ (same_new hp) (rn_tup al hp (ra.append rb)) h⟩))
    · subst q
      have := ra.length
      have e0 := List.length_eq_zero_iff.mp this.symm
      subst e0
      exact k _ _ H (Same.refl _) (rn_sh by'.shT) h
    · subst q
      have := rb.length
      have e0 := List.length_eq_zero_iff.mp this.symm
      subst e0
      rw [List.append_nil] at h
      exact k _ _ H (Same.refl _) (rn_sh bx.shT) h
def fMul : F2
  | .int i, .int j, Q => CMulW i j ∧ Q (.sh (.int (i * j)))
  | .lst ds, .int j, Q => j < 2 ^ 62 ∧ -(2 ^ 62) ≤ j ∧ ds.length * j.toNat ≤ 16777216 ∧ Q (.fr (.lst (List.replicate j.toNat ds).flatten))
  | _, _, _ => False
@[simp] theorem fMul_0  (i : Int) (j : Int) (Q : RD → Prop) : fMul (.int i) (.int j) Q = (CMulW i j ∧ Q (.sh (.int (i * j)))) := rfl
@[simp] theorem fMul_1  (ds : List D) (j : Int) (Q : RD → Prop) : fMul (.lst ds) (.int j) Q = (j < 2 ^ 62 ∧ -(2 ^ 62) ≤ j ∧ ds.length * j.toNat ≤ 16777216 ∧ Q (.fr (.lst (List.replicate j.toNat ds).flatten))) := rfl
def rMulA : R2 := fun x y H Q => (rI CMulW fun i j => .int (i * j)) x y H Q ∨ rRep x y H Q
theorem op_mulA : OpR X (binaryOp .Mult) rMulA := op_mulW.or op_rep
theorem RepAll.rep {M : List Addr} {H : Hp} {xs : List V} {ds : List D} (h : RepAll K G (mask M H) xs ds) : ∀ n : Nat, RepAll K G (mask M H) (List.replicate n xs).flatten (List.replicate n ds).flatten
  | 0 => rfl
  | n + 1 => by
    rw [List.replicate_succ, List.replicate_succ, List.flatten_cons, List.flatten_cons]
    exact h.append (RepAll.rep h n)
theorem ops_mul : OpS K G rMulA fMul := fun M H x y d e al bx by' Qd h Q k => by
  cases d <;> cases e <;> first | exact h.elim | skip
  · obtain ⟨hc, h⟩ := h
    exact .inl ⟨_, _, bx.int, by'.int, hc, k _ _ H (Same.refl _) rn_int h⟩
  · obtain ⟨h1, h2, h3, h⟩ := h
    obtain ⟨a, xs, rfl, ha, ra⟩ := bx.lst
    exact .inr ⟨a, _, xs, rfl, by'.int, ha, by omega, by omega, by rw [ra.length, line16]; exact h3, fun p hp => k _ _ _ (same_new hp) (rn_lst hp (ra.rep _)) h⟩
/-- // by anything but 0 below 2 ^ 9000 -/
def CDivA (_ j : Int) : Prop := j ≠ 0 ∧ j.natAbs.log2 < 9000
theorem op_fdivA : OpR X (binaryOp .FloorDiv) (rI CDivA fun i j => .int (i.fdiv j)) := opI fun _ _ _ _ _ _ _ hc q => PyProof.Rows.floordiv_int hc.1 q (.inl (PyProof.noPylong_of_log2 hc.2))
def eqD (neg : Bool) (d e : D) (Q : RD → Prop) : Prop := ∃ p q, d.py = some p ∧ e.py = some q ∧ SeqAt.shaped p = true ∧ SeqAt.shaped q = true ∧ Q (.sh (.bl (if neg then !PyData.eqv p q else PyData.eqv p q)))
def fEq (neg : Bool) : F2
  | .int i, .int j, Q => Q (.sh (.bl (if neg then !decide (i = j) else decide (i = j))))
  | .str i, .str j, Q => Q (.sh (.bl (if neg then !decide (i = j) else decide (i = j))))
  | .bl i, .bl j, Q => Q (.sh (.bl (if neg then !decide (i = j) else decide (i = j))))
  | d, e, Q => eqD neg d e Q
@[simp] theorem fEq_0 (neg : Bool) (i : Int) (j : Int) (Q : RD → Prop) : fEq neg (.int i) (.int j) Q = (Q (.sh (.bl (if neg then !decide (i = j) else decide (i = j))))) := rfl
@[simp] theorem fEq_1 (neg : Bool) (i : Str) (j : Str) (Q : RD → Prop) : fEq neg (.str i) (.str j) Q = (Q (.sh (.bl (if neg then !decide (i = j) else decide (i = j))))) := rfl
@[simp] theorem fEq_2 (neg : Bool) (i : Bool) (j : Bool) (Q : RD → Prop) : fEq neg (.bl i) (.bl j) Q = (Q (.sh (.bl (if neg then !decide (i = j) else decide (i = j))))) := rfl
@[simp] theorem fEq_lst (neg : Bool) (a b : List D) (Q : RD → Prop) : fEq neg (.lst a) (.lst b) Q = eqD neg (.lst a) (.lst b) Q := rfl
@[simp] theorem fEq_tup (neg : Bool) (a b : List D) (Q : RD → Prop) : fEq neg (.tup a) (.tup b) Q = eqD neg (.tup a) (.tup b) Q := rfl
def rEqA (K : PySem.W.Frag) : R2 := fun x y H Q => rEq x y H Q ∨ rEqD K x y H Q
def rNeA (K : PySem.W.Frag) : R2 := fun x y H Q => rNe x y H Q ∨ rNeD K x y H Q
theorem op_eqA (hu : X.A.units + 64 < cLine) : OpR X (compareOp .Eq) (rEqA X.K) := op_eq.or (op_eqD hu)
theorem op_neA (hu : X.A.units + 64 < cLine) : OpR X (compareOp .NotEq) (rNeA X.K) := op_ne.or (op_neD hu)
theorem dec_i {i j : Int} : decide (V.int i = V.int j) = decide (i = j) := by simp
theorem dec_s {i j : Str} : decide (V.str i = V.str j) = decide (i = j) := by simp
theorem dec_b {i j : Bool} : decide (V.bl i = V.bl j) = decide (i = j) := by simp
theorem ops_eq : OpS K G (rEqA K) (fEq false) := fun M H x y d e al bx by' Qd h Q k => by
  have deep : (∃ p q, d.py = some p ∧ e.py = some q ∧ SeqAt.shaped p = true ∧ SeqAt.shaped q = true ∧ Qd (.sh (.bl (PyData.eqv p q)))) → rEqA K x y H Q := fun ⟨p, q, e1, e2, s1, s2, z⟩ =>
    .inr ⟨p, q, bx.dp e1, by'.dp e2, s1, s2, k _ _ H (Same.refl _) rn_bl z⟩
  cases d <;> cases e <;> first
    | exact deep h
    | exact .inl (by
        have e1 := bx.int
        have e2 := by'.int
        subst e1 e2
        exact ⟨rfl, by rw [dec_i]; exact k _ _ H (Same.refl _) rn_bl h⟩)
    | exact .inl (by
        have e1 := bx.str
        have e2 := by'.str
        subst e1 e2
        exact ⟨rfl, by rw [dec_s]; exact k _ _ H (Same.refl _) rn_bl h⟩)
    | exact .inl (by
        have e1 := bx.bl
        have e2 := by'.bl
        subst e1 e2
        exact ⟨rfl, by rw [dec_b]; exact k _ _ H (Same.refl _) rn_bl h⟩)
theorem ops_ne : OpS K G (rNeA K) (fEq true) := fun M H x y d e al bx by' Qd h Q k => by
  have deep : (∃ p q, d.py = some p ∧ e.py = some q ∧ SeqAt.shaped p = true ∧ SeqAt.shaped q = true ∧ Qd (.sh (.bl (!PyData.eqv p q)))) → rNeA K x y H Q := fun ⟨p, q, e1, e2, s1, s2, z⟩ =>
    .inr ⟨p, q, bx.dp e1, by'.dp e2, s1, s2, k _ _ H (Same.refl _) rn_bl z⟩
  cases d <;> cases e <;> first
    | exact deep h
    | exact .inl (by
        have e1 := bx.int
        have e2 := by'.int
        subst e1 e2
        exact ⟨rfl, by rw [dec_i]; exact k _ _ H (Same.refl _) rn_bl h⟩)
    | exact .inl (by
        have e1 := bx.str
        have e2 := by'.str
        subst e1 e2
        exact ⟨rfl, by rw [dec_s]; exact k _ _ H (Same.refl _) rn_bl h⟩)
    | exact .inl (by
        have e1 := bx.bl
        have e2 := by'.bl
        subst e1 e2
        exact ⟨rfl, by rw [dec_b]; exact k _ _ H (Same.refl _) rn_bl h⟩)
def fIs (neg : Bool) : F2
  | .non, .non, Q => Q (.sh (.bl (!neg)))
  | _, .non, Q => Q (.sh (.bl neg))
  | _, _, _ => False
@[simp] theorem fIs_0 (neg : Bool) (Q : RD → Prop) : fIs neg .non .non Q = (Q (.sh (.bl (!neg)))) := rfl
@[simp] theorem fIs_int (neg : Bool) (x : Int) (Q : RD → Prop) : fIs neg (.int x) .non Q = Q (.sh (.bl neg)) := rfl
@[simp] theorem fIs_str (neg : Bool) (x : Str) (Q : RD → Prop) : fIs neg (.str x) .non Q = Q (.sh (.bl neg)) := rfl
@[simp] theorem fIs_bl (neg : Bool) (x : Bool) (Q : RD → Prop) : fIs neg (.bl x) .non Q = Q (.sh (.bl neg)) := rfl
@[simp] theorem fIs_lst (neg : Bool) (x : List D) (Q : RD → Prop) : fIs neg (.lst x) .non Q = Q (.sh (.bl neg)) := rfl
@[simp] theorem fIs_tup (neg : Bool) (x : List D) (Q : RD → Prop) : fIs neg (.tup x) .non Q = Q (.sh (.bl neg)) := rfl
theorem ops_isN : OpS K G (fun x y H Q => y = .non ∧ Q (.bl (decide (x = .non))) H) (fIs false) := fun M H x y d e al bx by' Qd h Q k => by
  have fin : ∀ b, decide (x = V.non) = b → Qd (.sh (.bl b)) → Q (.bl (decide (x = V.non))) H := fun b e q => by rw [e]; exact k _ _ H (Same.refl _) rn_bl q
  cases e <;> first | (cases d <;> exact h.elim) | skip
  refine ⟨by'.non, ?_⟩
  cases d with
  | non => exact fin true (by rw [bx.non]; rfl) h
  | bl b => exact fin false (by rw [bx.bl]; rfl) h
  | int b => exact fin false (by rw [bx.int]; rfl) h
  | str b => exact fin false (by rw [bx.str]; rfl) h
  | lst b => obtain ⟨p, _, e, _⟩ := bx.lst; exact fin false (by rw [e]; rfl) h
  | tup b => obtain ⟨p, _, e, _⟩ := bx.tup; exact fin false (by rw [e]; rfl) h
  | dct a b => obtain ⟨p, _, e, _⟩ := bx.dct; exact fin false (by rw [e]; rfl) h
  | ins a b => obtain ⟨p, _, _, e, _⟩ := bx.full; exact fin false (by rw [e]; rfl) h
  | deck => exact fin false (by rw [show x = V.ref G.deck from bx.full]; rfl) h
  | cls b => exact fin false (by rw [show x = V.ref (G.cls b) from bx.full]; rfl) h
  | raw p o => obtain ⟨e, _⟩ := bx.full; exact fin false (by rw [e]; rfl) h
  | ptup b => obtain ⟨p, _, _, e, _⟩ := bx.full; exact fin false (by rw [e]; rfl) h
theorem ops_notN : OpS K G (fun x y H Q => y = .non ∧ Q (.bl (!decide (x = .non))) H) (fIs true) := fun M H x y d e al bx by' Qd h Q k => by
  have fin : ∀ b, decide (x = V.non) = (!b) → Qd (.sh (.bl b)) → Q (.bl (!decide (x = V.non))) H := fun b e q => by rw [e, Bool.not_not]; exact k _ _ H (Same.refl _) rn_bl q
  cases e <;> first | (cases d <;> exact h.elim) | skip
  refine ⟨by'.non, ?_⟩
  cases d with
  | non => exact fin false (by rw [bx.non]; rfl) h
  | bl b => exact fin true (by rw [bx.bl]; rfl) h
  | int b => exact fin true (by rw [bx.int]; rfl) h
  | str b => exact fin true (by rw [bx.str]; rfl) h
  | lst b => obtain ⟨p, _, e, _⟩ := bx.lst; exact fin true (by rw [e]; rfl) h
  | tup b => obtain ⟨p, _, e, _⟩ := bx.tup; exact fin true (by rw [e]; rfl) h
  | dct a b => obtain ⟨p, _, e, _⟩ := bx.dct; exact fin true (by rw [e]; rfl) h
  | ins a b => obtain ⟨p, _, _, e, _⟩ := bx.full; exact fin true (by rw [e]; rfl) h
  | deck => exact fin true (by rw [show x = V.ref G.deck from bx.full]; rfl) h
  | cls b => exact fin true (by rw [show x = V.ref (G.cls b) from bx.full]; rfl) h
  | raw p o => obtain ⟨e, _⟩ := bx.full; exact fin true (by rw [e]; rfl) h
  | ptup b => obtain ⟨p, _, _, e, _⟩ := bx.full; exact fin true (by rw [e]; rfl) h
def D.flat : D → Bool
  | .non => true
  | .bl _ => true
  | .int _ => true
  | .str _ => true
  | _ => false
def D.v : D → V
  | .bl b => .bl b
  | .int i => .int i
  | .str x => .str x
  | _ => .non
def inD (d : D) (ds : List D) : Bool := inV d.v (ds.map D.v)
theorem RB.flat {M : List Addr} {H : Hp} {v : V} {d : D} (h : RB K G M H v d) (f : d.flat = true) : v = d.v ∧ flatV v = true := by
  cases d with
  | non => have := h.non; subst this; exact ⟨rfl, rfl⟩
  | bl b => have := h.bl; subst this; exact ⟨rfl, rfl⟩
  | int b => have := h.int; subst this; exact ⟨rfl, rfl⟩
  | str b => have := h.str; subst this; exact ⟨rfl, rfl⟩
  | _ => cases f
theorem RepAll.flat {H : Hp} : ∀ {ds : List D} {xs : List V}, RepAll K G H xs ds → (ds.all D.flat) = true → xs = ds.map D.v ∧ xs.all flatV = true
  | [], xs, h, _ => by
    have h : xs = [] := h
    subst h; exact ⟨rfl, rfl⟩
  | d :: ds, xs, ⟨x, ys, e, r, t⟩, f => by
    subst e
    rw [List.all_cons, Bool.and_eq_true] at f
    obtain ⟨a, b⟩ := t.flat f.2
    obtain ⟨a', b'⟩ := RB.flat (M := []) (H := H) (.inl (r.mono fun b o e => by rw [mask_out (by simp)]; exact e)) f.1
    subst a a'
    exact ⟨rfl, by rw [List.all_cons, b', b]; rfl⟩
def fIn (neg : Bool) : F2
  | d, .lst ds, Q => d.flat = true ∧ ds.all D.flat = true ∧ Q (.sh (.bl (if neg then !inD d ds else inD d ds)))
  | d, .tup ds, Q => d.flat = true ∧ ds.all D.flat = true ∧ Q (.sh (.bl (if neg then !inD d ds else inD d ds)))
  | _, _, _ => False
@[simp] theorem fIn_0 (neg : Bool) (d : D) (ds : List D) (Q : RD → Prop) : fIn neg d (.lst ds) Q = (d.flat = true ∧ ds.all D.flat = true ∧ Q (.sh (.bl (if neg then !inD d ds else inD d ds)))) := rfl
@[simp] theorem fIn_1 (neg : Bool) (d : D) (ds : List D) (Q : RD → Prop) : fIn neg d (.tup ds) Q = (d.flat = true ∧ ds.all D.flat = true ∧ Q (.sh (.bl (if neg then !inD d ds else inD d ds)))) := rfl
theorem ops_in {neg : Bool} : OpS K G (rIn K neg) (fIn neg) := fun M H x y d e al bx by' Qd h Q k => by
  cases e <;> first | exact h.elim | skip
  · obtain ⟨f1, f2, h⟩ := h
    obtain ⟨a, xs, rfl, ha, ra⟩ := by'.lst
    obtain ⟨e1, e2⟩ := bx.flat f1
    obtain ⟨e3, e4⟩ := ra.flat f2
    refine ⟨a, xs, rfl, .inl (SqL.of ha), e2, e4, ?_⟩
    rw [e1, e3]
    exact k _ _ H (Same.refl _) rn_bl h
  · obtain ⟨f1, f2, h⟩ := h
    obtain ⟨a, xs, rfl, ha, ra⟩ := by'.tup
    obtain ⟨e1, e2⟩ := bx.flat f1
    obtain ⟨e3, e4⟩ := ra.flat f2
    refine ⟨a, xs, rfl, .inr ha, e2, e4, ?_⟩
    rw [e1, e3]
    exact k _ _ H (Same.refl _) rn_bl h
def fIx : F2
  | .lst ds, .int i, Q => ∃ x, atI ds i = some x ∧ Q (.sh x)
  | .tup ds, .int i, Q => ∃ x, atI ds i = some x ∧ Q (.sh x)
  | .str z, .int i, Q => ∃ c, z.length ≤ 16777216 ∧ atI z.cps.toList i = some c ∧ Q (.sh (.str ⟨#[c]⟩))
  | _, _, _ => False
@[simp] theorem fIx_0  (ds : List D) (i : Int) (Q : RD → Prop) : fIx (.lst ds) (.int i) Q = (∃ x, atI ds i = some x ∧ Q (.sh x)) := rfl
@[simp] theorem fIx_1  (ds : List D) (i : Int) (Q : RD → Prop) : fIx (.tup ds) (.int i) Q = (∃ x, atI ds i = some x ∧ Q (.sh x)) := rfl
@[simp] theorem fIx_2  (z : Str) (i : Int) (Q : RD → Prop) : fIx (.str z) (.int i) Q = (∃ c, z.length ≤ 16777216 ∧ atI z.cps.toList i = some c ∧ Q (.sh (.str ⟨#[c]⟩))) := rfl
theorem RepAll.atI {H : Hp} {xs : List V} {ds : List D} {i : Int} {d : D} (r : RepAll K G H xs ds) (h : L2.atI ds i = some d) : ∃ v, L2.atI xs i = some v ∧ Rep K G H v d := by
  unfold L2.atI at h ⊢
  rw [r.length]
  obtain ⟨j, h1, h2⟩ := Option.bind_eq_some_iff.mp h
  obtain ⟨v, h3, h4⟩ := r.get h2
  exact ⟨v, by rw [h1]; exact h3, h4⟩
theorem ops_ix : OpS K G (rIx K) fIx := fun M H x y d e al bx by' Qd h Q k => by
  cases d <;> cases e <;> first | exact h.elim | skip
  · obtain ⟨c, h1, h2, h⟩ := h
    exact .inr (.inr ⟨_, _, c, bx.str, by'.int, by rw [line16]; exact h1, h2, k _ _ H (Same.refl _) rn_str h⟩)
  · obtain ⟨x, h1, h⟩ := h
    obtain ⟨a, xs, rfl, ha, ra⟩ := bx.lst
    obtain ⟨v, h2, rv⟩ := ra.atI h1
    exact .inl ⟨a, xs, _, v, rfl, by'.int, SqL.of ha, h2, k _ _ H (Same.refl _) (rn_sh rv) h⟩
  · obtain ⟨x, h1, h⟩ := h
    obtain ⟨a, xs, rfl, ha, ra⟩ := bx.tup
    obtain ⟨v, h2, rv⟩ := ra.atI h1
    exact .inr (.inl ⟨a, xs, _, v, rfl, by'.int, ha, h2, k _ _ H (Same.refl _) (rn_sh rv) h⟩)
variable {a b : Expr} {ta tb : TE} {wa wb : WE} {pos : Pos}
theorem de_ix (ha : DE X G a ta wa) (hb : DE X G b tb wb) (hs : PlainIx b := by exact fun _ _ => rfl) : DE X G (.Subscript a b pos) (tOp (rIx X.K) ta tb) (wOp fIx wa wb) := ⟨pe_ix ix_seq ha.pe hb.pe hs, fun E => sim_op ops_ix (ha.sim E) (hb.sim E)⟩
theorem de_add (ha : DE X G a ta wa) (hb : DE X G b tb wb) : DE X G (.BinOp a .Add b pos) (tOp (rAddA X.K) ta tb) (wOp fAdd wa wb) := de_op op_addA ops_add ha hb
theorem de_sub (ha : DE X G a ta wa) (hb : DE X G b tb wb) : DE X G (.BinOp a .Sub b pos) (tOp (rI0 fun i j => .int (i - j)) ta tb) (wOp (fI (fun _ _ => True) fun i j => i - j) wa wb) := de_op op_sub ops_I0 ha hb
theorem de_mul (ha : DE X G a ta wa) (hb : DE X G b tb wb) : DE X G (.BinOp a .Mult b pos) (tOp rMulA ta tb) (wOp fMul wa wb) := de_op op_mulA ops_mul ha hb
theorem de_fdiv (ha : DE X G a ta wa) (hb : DE X G b tb wb) : DE X G (.BinOp a .FloorDiv b pos) (tOp (rI CDivA fun i j => .int (i.fdiv j)) ta tb) (wOp (fI CDivA Int.fdiv) wa wb) := de_op op_fdivA ops_I ha hb
theorem de_mod (ha : DE X G a ta wa) (hb : DE X G b tb wb) : DE X G (.BinOp a .Mod b pos) (tOp (rI (fun _ j => j ≠ 0) fun i j => .int (i.fmod j)) ta tb) (wOp (fI (fun _ j => j ≠ 0) Int.fmod) wa wb) := de_op op_modN ops_I ha hb
theorem de_pow (ha : DE X G a ta wa) (hb : DE X G b tb wb) : DE X G (.BinOp a .Pow b pos) (tOp (rI CPow fun i j => .int (i ^ j.toNat)) ta tb) (wOp (fI CPow fun i j => i ^ j.toNat) wa wb) := de_op op_pow ops_I ha hb
theorem de_neg (ha : DE X G a ta wa) : DE X G (.UnaryOp .USub a pos) (tUn (rU fun i => .int (-i)) ta) (wUn fNeg wa) := de_un un_neg (fun M H x d al bx Qd h Q k => by
  cases d <;> first | exact h.elim | skip
  exact ⟨_, bx.int, k _ _ H (Same.refl _) rn_int h⟩) ha
end
end L3
namespace L3
open PySem L2
@[simp] abbrev fLt : F2 := fIB fun i j => decide (i < j)
@[simp] abbrev fLe : F2 := fIB fun i j => decide (i ≤ j)
@[simp] abbrev fGt : F2 := fIB fun i j => decide (j < i)
@[simp] abbrev fGe : F2 := fIB fun i j => decide (j ≤ i)
@[simp] abbrev fSub : F2 := fI (fun _ _ => True) fun i j => i - j
@[simp] abbrev fFdiv : F2 := fI CDivA Int.fdiv
@[simp] abbrev fMod : F2 := fI (fun _ j => j ≠ 0) Int.fmod
@[simp] abbrev fPow : F2 := fI CPow fun i j => i ^ j.toNat
end L3
namespace L3
open PySem PySem.Spec PyProof.Rows L2
structure FnG (P : Program) (w : World) (K : PySem.W.Frag) (mg : Str → Option Value) (base : Heap) (CX : CXT) (k : Nat) (f : Addr) (fd : FuncData) (ps : List Str) (sp : Sp) : Prop where
  len : ∀ vs H Q E, sp vs H Q E → vs.length = ps.length
  go : ∀ (A : Around) (outer : List Env) (s : Shared) (H : Hp) (args : Args) (us : List Value) (vs : List V) (Q : VK) (E : XK), (Room k A ∧ A.guards = some []) → Env0 P w K mg base A outer s H →
    BindsTo s fd args (ps.zip us) → Vals vs us → sp vs H Q E → codeAny (model P w) A (.call (.ref f) args) (CR CX outer P w H s Q E) s
/-- a def of the text as it stands -/
def FunB (K : PySem.W.Frag) (x qual : Str) (params : Arguments) (body : List Stmt) (scope : Scope) (f : Addr) (fd : FuncData) : Prop :=
  ∃ (oc : Value) (od : Option Addr) (dV kV doc pm : Value) (an : Option Addr) (cdv ct : Value) (osl : Array (Option Value)),
    fd = PySem.W.fnOf x qual params body scope dV kV doc pm an cdv ct ∧ K.lookup f = some ⟨oc, od, .func fd, osl⟩ ∧ PySem.W.codeIn K cdv qual = true
theorem FunB.ofD {K : PySem.W.Frag} {x qual : Str} {params : Arguments} {body : List Stmt} {scope : Scope} {dvs : List V} {kws : List (Str × V)} {f : Addr} {fd : FuncData} (F : FunD K x qual params body scope dvs kws f fd) : FunB K x qual params body scope f fd := by
  obtain ⟨oc, od, dV, kV, doc, pm, an, cdv, ct, osl, h1, h2, h3, _⟩ := F.ex
  exact ⟨oc, od, dV, kV, doc, pm, an, cdv, ct, osl, h1, h2, h3⟩
theorem FunB.of {K : PySem.W.Frag} {x qual : Str} {st : Stmt} {f : Addr} {fd : FuncData} (F : Fun K x qual st f fd) : FunB K x qual (defArgs st) (defBody st) (defScope st) f fd := by
  obtain ⟨oc, od, kV, doc, pm, an, cdv, ct, osl, h1, h2, h3⟩ := F.ex
  exact ⟨oc, od, _, kV, doc, pm, an, cdv, ct, osl, h1, h2, h3⟩
section
variable {P : Program} {w : World} {K : PySem.W.Frag} {mg : Str → Option Value} {base : Heap} {CX : CXT} {k : Nat} {f : Addr} {fd : FuncData} {ps N : List Str} {sp : Sp} {x qual : Str} {params : Arguments} {body : List Stmt} {scope : Scope}
/-- a def keeps its promise if its body does -/
theorem FnG.of (F : FunB K x qual params body scope f fd) (S : FnScope N ps scope) (len : ∀ vs H Q E, sp vs H Q E → vs.length = ps.length)
    (hb : ∀ (cdv : Value) (A : Around) (outer : List Env) (s : Shared) (H : Hp) (vs : List V) (Q : VK) (E : XK), Room k (A.deeper (envOfC qual scope s.heap.objs.size f cdv)) → A.guards = some [] → sp vs H Q E →
      ∃ t, PSs (cxOf CX P w K mg base N qual scope f cdv A outer s H E) body t ∧ t { nx := fun _ H' => Q .non H', rt := Q } (start N vs) H) : FnG P w K mg base CX (k + 1) f fd ps sp := by
  obtain ⟨oc, od, dV, kV, doc, pm, an, cdv, ct, osl, rfl, lk, hcd⟩ := F
  refine ⟨len, fun A outer s H args us vs Q E ⟨hr, hg⟩ e0 bt r hsp => ?_⟩
  have hl := len vs H Q E hsp
  have keepB : ∀ b o, base.get? b = some o → s.heap.get? b = some o := fun b o e => (e0.bs b o e).1
  have kx : K.In s.heap := e0.mod.kin.keeps keepB
  have nl : s.heap.NoLimit := e0.mod.nolimit.keeps keepB
  refine codeAny_call_function hr.depth (kx _ _ lk) rfl S.co S.gen rfl (PySem.W.codeRec_of kx hcd) (bt _ _ _ _ ?_)
  have kinds : ∀ y ∈ ps.zip us, scope.names.lookup y.1 = some .local ∨ (scope.names.lookup y.1 = some .cell ∧ ((cellsFrom (s.heap.objs.size + 1) scope.names []).lookup y.1).isSome = true) := by
    rintro ⟨n, v⟩ hy
    exact (S.par n (List.of_mem_zip hy).1).imp_right fun q => ⟨q, PySem.W.cellsFrom_some _ _ _ (.inl q)⟩
  refine wpAny_newFunctionEnv_cells S.kind kinds fun env he s1 ic => ?_
  subst he
  refine ⟨nl.keeps ic.toInCall.keep, codeAny_func ?_⟩
  obtain ⟨t, ht, hq⟩ := hb cdv A outer s H vs Q E (hr.deeper _) hg hsp
  have J0 : Inv (cxOf CX P w K mg base N qual scope f cdv A outer s H E) [] (start N vs) H s1 := inv_start S hr.hd e0 hl r ic
  refine wpAny_mono (ht.run [] s1 (start N vs) H _ J0 hq) (fun fl s' hs => ?_) fun _ _ z => z
  cases fl with
  | ret u => obtain ⟨v, σ', H', J, rv, q⟩ := hs; exact ⟨v, H', J.os, J.bare, J.base, J.hok, rv, q⟩
  | next => obtain ⟨σ', H', J, q⟩ := hs; exact ⟨V.non, H', J.os, J.bare, J.base, J.hok, rfl, q⟩
  | brk => obtain ⟨_, _, _, q⟩ := hs; cases q
  | cont => obtain ⟨_, _, _, q⟩ := hs; cases q
theorem FnG.mono {j : Nat} (F : FnG P w K mg base CX j f fd ps sp) (h : j ≤ k) : FnG P w K mg base CX k f fd ps sp := ⟨F.len, fun A outer s H args us vs Q E ⟨hr, hg⟩ => F.go A outer s H args us vs Q E ⟨hr.mono h, hg⟩⟩
theorem FnG.ofOk (F : FnOk P w K mg base CX k f fd ps sp) : FnG P w K mg base CX k f fd ps sp := ⟨F.len, fun A outer s H args us vs Q E ⟨hr, _⟩ => F.run A outer s H args us vs Q E hr⟩
end
section
variable {X : Cx} {CX : CXT} {k : Nat} {f C : Addr} {fd : FuncData} {ps ks : List Str} {sp : Sp} {dvs : List V} {ds : List Value} {E : XK} {x m : Str} {p pos apos : Pos} {e o : Expr} {es : List Expr} {kws : List Keyword} {ta : TE} {t tk : TA}
theorem FnG.call {pins : List (Addr × Obj)} {σ : L2.St} {H : Hp} {s : Shared} {Q : VK} {args : Args} {us : List Value} {vs : List V} (F : FnG X.prog X.w X.K X.mg X.base CX k f fd ps sp) (hr : Room k X.A) (hg : X.A.guards = some []) (hx : Passes CX X E)
    (I : Inv X pins σ H s) (bt : us.length = ps.length → BindsTo s fd args (ps.zip us)) (r : Vals vs us) (h : sp vs H Q E) : codeAny (model X.prog X.w) X.A (.call (.ref f) args) (fun q s' => match q with | .ok (.ret u) => EP X pins σ Q u s' | .ok _ => False | .error e => X.xe e s') s := by
  have hl : us.length = ps.length := by rw [← r.length]; exact F.len vs H Q E h
  refine codeAny_mono (F.go X.A X.stack s H args us vs Q E ⟨hr, hg⟩ I.env0 (bt hl) r h) fun q s' hq => ?_
  cases q with
  | error e => exact hx pins σ H s e s' I hq
  | ok fl => cases fl with
    | ret u => exact I.after hq
    | next => cases hq
    | brk => cases hq
    | cont => cases hq
theorem wp_of_code {α : Type} {M : Model} {A : Around} {fv : Value} {us : List Value} {kw : List (Str × Value)} {Q : Value → Shared → Prop} {E' : Value → Shared → Prop} {s : Shared}
    (h : codeAny M A (.call fv ⟨us, kw⟩) (fun q s' => match q with | .ok (.ret u) => Q u s' | .ok _ => False | .error e => E' e s') s) : wpAny M A (PySem.call fv us kw) Q E' s := by
  refine wpAny_call (codeAny_mono h fun q s' hq => ?_)
  cases q with
  | error e => exact hq
  | ok fl => cases fl with
    | ret u => exact hq
    | next => cases hq
    | brk => cases hq
    | cont => cases hq
theorem pg_call (F : FnG X.prog X.w X.K X.mg X.base CX k f fd ps sp) (hr : Room k X.A) (hg : X.A.guards = some []) (gl : Gl X x) (hm : X.mg x = some (.ref f)) (hk : PySem.W.keepIn X.K (.ref f) = true) (hb : Binds X.K fd ps ds) (hd : Vals dvs ds) (hx : Passes CX X E)
    (ha : PA X (e :: es) t) (hdb : (x == ("__debug__" : Str)) = false := by decide) (he : starEach (e :: es) X.env = (false, eval e X.env) :: starEach es X.env := by rfl) (hpl : (backTo pos (starEach es X.env)).any (·.1) = false := by rfl) :
    PE X (.Call (.Name x p) (e :: es) [] pos) (tCall sp dvs E t) :=
  ⟨fun pins s σ H Q I h => wpAny_Call_Name_kw (ld_glob I gl hm (PySem.W.callWith_K (h₀ := X.base) I.ok.mod.kin hk (thn (ha.run pos pins s σ H _ I h) fun us s1 ⟨vs, H1, I1, r, q⟩ =>
    ⟨I1.kIn, wp_of_code (α := Unit) (F.call hr hg hx I1 (fun hl => hb s1 us I1.kIn hl) (r.append hd) q)⟩) he hpl) hdb)⟩
theorem pg_call0 (F : FnG X.prog X.w X.K X.mg X.base CX k f fd ps sp) (hr : Room k X.A) (hg : X.A.guards = some []) (gl : Gl X x) (hm : X.mg x = some (.ref f)) (hk : PySem.W.keepIn X.K (.ref f) = true) (hb : Binds X.K fd ps ds) (hd : Vals dvs ds) (hx : Passes CX X E)
    (hdb : (x == ("__debug__" : Str)) = false := by decide) : PE X (.Call (.Name x p) [] [] pos) (tCall sp dvs E tNil) :=
  ⟨fun pins s σ H Q I h => wpAny_Call_Name_kw (ld_glob I gl hm (PySem.W.callWith_K0 I.kIn hk (wp_of_code (α := Unit) (F.call (args := ⟨[], []⟩) hr hg hx I (fun hl => hb s [] I.kIn hl) (us := [] ++ ds) (vs := [] ++ dvs) hd h))) hdb)⟩
/-- the values of some places -/
@[simp] def pick {α : Type} (perm : List Nat) (l : List α) : List α := perm.filterMap fun i => l[i]?
theorem pick_vals {perm : List Nat} {vs : List V} {us : List Value} (r : Vals vs us) : Vals (pick perm vs) (pick perm us) := by
  induction perm with
  | nil => exact .nil
  | cons i perm ih =>
    unfold pick at ih ⊢
    cases q : vs[i]? with
    | none =>
      rw [List.filterMap_cons_none q, List.filterMap_cons_none (r.none_of q)]
      exact ih
    | some v =>
      obtain ⟨u, hu, ru⟩ := r.get q
      rw [List.filterMap_cons_some q, List.filterMap_cons_some hu]
      exact .cons ru ih
/-- how a call with keywords binds: n values, then those of the keywords ks, then the defaults, of which perm picks the parameters' -/
def KB (K : PySem.W.Frag) (fd : FuncData) (ps : List Str) (n : Nat) (ks : List Str) (perm : List Nat) (ds : List Value) : Prop :=
  ∀ (s : Shared) (us ws : List Value), K.In s.heap → us.length = n → ws.length = ks.length → BindsTo s fd ⟨us, ks.zip ws⟩ (ps.zip (pick perm (us ++ ws ++ ds)))
def tCallP (sp : Sp) (n m : Nat) (perm : List Nat) (dvs : List V) (E : XK) (t tk : TA) : TE := fun σ H Q => t σ H fun vs H1 => tk σ H1 fun zs H2 => vs.length = n ∧ zs.length = m ∧ sp (pick perm (vs ++ zs ++ dvs)) H2 Q E
theorem pg_callK {n : Nat} {perm : List Nat} (F : FnG X.prog X.w X.K X.mg X.base CX k f fd ps sp) (hr : Room k X.A) (hg : X.A.guards = some []) (gl : Gl X x) (hm : X.mg x = some (.ref f)) (hk : PySem.W.keepIn X.K (.ref f) = true) (hb : KB X.K fd ps n ks perm ds) (hd : Vals dvs ds) (hx : Passes CX X E)
    (ha : PA X (e :: es) t) (hkw : PK X kws tk) (hall : (backToKw pos (keywordEach kws X.env)).all (·.1.isSome) = true := by rfl) (hks : (backToKw pos (keywordEach kws X.env)).filterMap (·.1) = ks := by rfl)
    (hdb : (x == ("__debug__" : Str)) = false := by decide) (he : starEach (e :: es) X.env = (false, eval e X.env) :: starEach es X.env := by rfl)
    (hpl : ((backTo pos (starEach (e :: es) X.env)).any (·.1) || (backToKw pos (keywordEach kws X.env)).any (·.1.isNone)) = false := by rfl) :
    PE X (.Call (.Name x p) (e :: es) kws pos) (tCallP sp n ks.length perm dvs E t tk) := by
  refine ⟨fun pins s σ H Q I h => wpAny_Call_Name_kw (ld_glob I gl hm ?_ hdb)⟩
  refine PySem.W.callWith_KW (h₀ := X.base) I.ok.mod.kin hk hall (thn (ha.run pos pins s σ H _ I h) fun us s1 ⟨vs, H1, I1, r, q⟩ => thn (hkw.run pos pins s1 σ H1 _ I1 q) fun ws s2 ⟨zs, H2, I2, rz, l1, l2, q2⟩ => ⟨I2.kIn, ?_⟩) hpl he
  rw [hks]
  exact wp_of_code (α := Unit) (F.call hr hg hx I2 (fun _ => hb s2 us ws I2.kIn (by rw [← r.length]; exact l1) (by rw [← rz.length]; exact l2)) (pick_vals ((r.append rz).append hd)) q2)
theorem pg_callK0 {perm : List Nat} (F : FnG X.prog X.w X.K X.mg X.base CX k f fd ps sp) (hr : Room k X.A) (hg : X.A.guards = some []) (gl : Gl X x) (hm : X.mg x = some (.ref f)) (hk : PySem.W.keepIn X.K (.ref f) = true) (hb : KB X.K fd ps 0 ks perm ds) (hd : Vals dvs ds) (hx : Passes CX X E)
    (hkw : PK X kws tk) (hall : (backToKw pos (keywordEach kws X.env)).all (·.1.isSome) = true := by rfl) (hks : (backToKw pos (keywordEach kws X.env)).filterMap (·.1) = ks := by rfl) (hdb : (x == ("__debug__" : Str)) = false := by decide)
    (hpl : ((backTo pos (starEach [] X.env)).any (·.1) || (backToKw pos (keywordEach kws X.env)).any (·.1.isNone)) = false := by rfl) :
    PE X (.Call (.Name x p) [] kws pos) (tCallP sp 0 ks.length perm dvs E tNil tk) := by
  refine ⟨fun pins s σ H Q I h => wpAny_Call_Name_kw (ld_glob I gl hm ?_ hdb)⟩
  refine PySem.W.callWith_KW0 (h₀ := X.base) I.ok.mod.kin hk hall (thn (hkw.run pos pins s σ H _ I h) fun ws s2 ⟨zs, H2, I2, rz, _, l2, q2⟩ => ⟨I2.kIn, ?_⟩) hpl
  rw [hks]
  exact wp_of_code (α := Unit) (F.call hr hg hx I2 (fun _ => hb s2 [] ws I2.kIn rfl (by rw [← rz.length]; exact l2)) (pick_vals (vs := [] ++ zs ++ dvs) (us := [] ++ ws ++ ds) (rz.append hd)) q2)
end

abbrev Con := List D → Nat → (D → Nat → Prop) → Prop
def lift (K : PySem.W.Frag) (Gf : Addr → Addr → Gx) (C : Con) : Sp := fun vs H Q _ => ∃ (a c : Addr) (ads : List Addr) (ds : List D) (n : Nat) (Qd : D → Nat → Prop),
  (∀ x ∈ (Gf a c).dk, x ∈ ads) ∧ (∀ x ∈ ads, H x ≠ none) ∧ (Gf a c).DI n H ∧ RepAll K (Gf a c) (mask ads H) vs ds ∧ C ds n Qd ∧
  ∀ (v : V) (d : D) (n' : Nat) (H' : Hp), (∀ b o, H b = some o → b ∉ (Gf a c).dk → H' b = some o) → (Gf a c).DI n' H' → Rep K (Gf a c) (mask ads H') v d → Qd d n' → Q v H'
@[simp] def start3 (N : List Str) (ds : List D) : List (Option SV) := ds.map (fun d => some (.sh d)) ++ List.replicate (N.length - ds.length) none
section
variable {P : Program} {w : World} {K : PySem.W.Frag} {mg : Str → Option Value} {base : Heap} {k : Nat} {f : Addr} {fd : FuncData} {ps N : List Str} {x qual : Str} {params : Arguments} {body : List Stmt} {scope : Scope} {Gf : Addr → Addr → Gx} {C : Con} {ws : WS}
theorem start_sr {G : Gx} {H : Hp} {ads : List Addr} {n : Nat} {am : Nat → Addr} {vs : List V} {ds : List D} (hk : ∀ x ∈ G.dk, x ∈ ads) (ha : ∀ x ∈ ads, H x ≠ none) (di : G.DI n H) (r : RepAll K G (mask ads H) vs ds) :
    SR K G ⟨H, ads, [], none⟩ am ads (L2.start N vs) ⟨start3 N ds, n⟩ H where
  len := by unfold L2.start start3; simp [r.length]
  sh := fun i d h => by
    unfold start3 at h
    by_cases q : i < ds.length
    · rw [List.getElem?_append_left (by simpa using q), List.getElem?_map] at h
      cases e : ds[i]? with
      | none => rw [e] at h; cases h
      | some d' =>
        rw [e] at h
        have : d' = d := by simpa using h
        subst this
        obtain ⟨v, h1, h2⟩ := r.get e
        refine ⟨v, ?_, h2⟩
        unfold L2.start
        rw [List.getElem?_append_left (by simpa [r.length] using q), List.getElem?_map, h1]
        rfl
    · rw [List.getElem?_append_right (by simpa using q), List.getElem?_replicate] at h
      split at h <;> cases h
  ow := fun i d h => by
    unfold start3 at h
    by_cases q : i < ds.length
    · rw [List.getElem?_append_left (by simpa using q), List.getElem?_map] at h
      cases e : ds[i]? with
      | none => rw [e] at h; cases h
      | some d' => rw [e] at h; cases h
    · rw [List.getElem?_append_right (by simpa using q), List.getElem?_replicate] at h
      split at h <;> cases h
  inj := fun a b ⟨d, h⟩ _ _ => by
    exfalso
    unfold start3 at h
    by_cases q : a < ds.length
    · rw [List.getElem?_append_left (by simpa using q), List.getElem?_map] at h
      cases e : ds[a]? with
      | none => rw [e] at h; cases h
      | some d' => rw [e] at h; cases h
    · rw [List.getElem?_append_right (by simpa using q), List.getElem?_replicate] at h
      split at h <;> cases h
  ads := fun a z => z
  dks := hk
  al := ha
  base := fun b o h _ => h
  di := di
  gh := fun p hp => by cases hp
  slf := fun x hx => by cases hx
/-- THE RULE: a def by its body's reading over data -/
theorem FnG.data (F : FunB K x qual params body scope f fd) (S : FnScope N ps scope) (len : ∀ ds n Q, C ds n Q → ds.length = ps.length)
    (hb : ∀ (cdv : Value) (A : Around) (outer : List Env) (s : Shared) (H : Hp) (E : XK) (a c : Addr), Room k (A.deeper (envOfC qual scope s.heap.objs.size f cdv)) → A.guards = some [] →
      ∃ t, DSs (cxOf CX0 P w K mg base N qual scope f cdv A outer s H E).nox (Gf a c) body t ws)
    (hw : ∀ ds n Q, C ds n Q → ws ⟨fun δ => Q .non δ.n, Q, fun _ => False, fun _ => False⟩ ⟨start3 N ds, n⟩) : FnG P w K mg base CX0 (k + 1) f fd ps (lift K Gf C) := by
  refine FnG.of F S (fun vs H Q E ⟨a, c, ads, ds, n, Qd, _, _, _, r, hc, _⟩ => by rw [r.length]; exact len ds n Qd hc) fun cdv A outer s H vs Q E hr hg ⟨a, c, ads, ds, n, Qd, hk, ha, di, r, hc, q⟩ => ?_
  obtain ⟨t, ht⟩ := hb cdv A outer s H E a c hr hg
  refine ⟨t, ht.ps.nox, ht.sim ⟨H, ads, [], none⟩ (fun _ => 0) ads _ _ H (start_sr hk ha di r) _ (hw ds n Qd hc) _ ⟨fun am M σ δ H' S' z => ?_, fun _ _ _ _ _ _ z => z, fun _ _ _ _ _ _ z => z, fun v d n' H' rv hbase di' z => q v d n' H' hbase di' rv z⟩⟩
  exact q .non .non _ H' S'.base S'.di rfl z
end
@[simp] def wCall (C : Con) (dd : List D) (w : WA) : WE := fun δ Q => w δ fun rs δ1 => keeps rs ∧ C (rs.map RD.d ++ dd) δ1.n fun d n' => Q (.sh d) ⟨δ1.sl, n'⟩
@[simp] def wCallP (C : Con) (n m : Nat) (perm : List Nat) (dd : List D) (w wk : WA) : WE := fun δ Q => w δ fun rs δ1 => wk δ1 fun qs δ2 => keeps rs ∧ keeps qs ∧ rs.length = n ∧ qs.length = m ∧
  C (pick perm (rs.map RD.d ++ qs.map RD.d ++ dd)) δ2.n fun d n' => Q (.sh d) ⟨δ2.sl, n'⟩
section
variable {X : Cx} {G : Gx} {K : PySem.W.Frag} {E : Ent} {Gf : Addr → Addr → Gx} {a c : Addr} {C : Con} {dd : List D} {dvs : List V} {ta tk : TA} {wa wk : WA}
/-- the default values, that stand whatever the heap -/
def Dfl (K : PySem.W.Frag) (G : Gx) (dvs : List V) (dd : List D) : Prop := ∀ H, RepAll K G H dvs dd
theorem dfl_nil {G : Gx} : Dfl K G [] [] := fun _ => rfl
theorem lift_use {Ex : XK} {am : Nat → Addr} {M : List Addr} {σ : L2.St} {δ : St3} {H : Hp} {vs : List V} {ds : List D} {Qd : RD → St3 → Prop} {Q : VK} (S : SR K (Gf a c) E am M σ δ H) (r : RepAll K (Gf a c) (mask M H) vs ds) (hc : C ds δ.n fun d n' => Qd (.sh d) ⟨δ.sl, n'⟩)
    (k : ∀ (v : V) (r : RD) (δ' : St3) (H' : Hp), SR K (Gf a c) E am M σ δ' H' → Ext (Gf a c) am δ H H' → (∀ i, isOwn δ' i → isOwn δ i) → RV K (Gf a c) E am M σ δ' H' v r → Qd r δ' → Q v H') : lift K Gf C vs H Q Ex := by
  refine ⟨a, c, M, ds, δ.n, _, fun x hx => S.ads x (S.dks x hx), S.al, S.di, r, hc, fun v d n' H' hb di rv q => ?_⟩
  exact k v (.sh d) ⟨δ.sl, n'⟩ H' (S.after hb di) (fun b o h hk _ => hb b o h hk) (fun i z => z) rv q
theorem sim_call {Ex : XK} (h : SimA K (Gf a c) E ta wa) (hd : Dfl K (Gf a c) dvs dd) : SimE K (Gf a c) E (tCall (lift K Gf C) dvs Ex ta) (wCall C dd wa) := fun am M σ δ H S Qd q Q k =>
  h am M σ δ H S _ q _ fun vs rs δ1 H1 S1 e1 o1 r1 ⟨hk, hc⟩ => lift_use S1 ((r1.rep hk).append (hd _)) hc fun v r δ' H' S' e' o' rv hq => k v r δ' H' S' (e1.trans o1 e') (fun i z => o1 i (o' i z)) rv hq
theorem pick_rep {perm : List Nat} {H : Hp} {G : Gx} {vs : List V} {ds : List D} (r : RepAll K G H vs ds) : RepAll K G H (pick perm vs) (pick perm ds) := by
  induction perm with
  | nil => exact rfl
  | cons i perm ih =>
    unfold pick at ih ⊢
    cases q : ds[i]? with
    | none =>
      have q' : vs[i]? = none := by
        rw [List.getElem?_eq_none_iff] at q ⊢
        rw [r.length]; exact q
      rw [List.filterMap_cons_none q, List.filterMap_cons_none q']
      exact ih
    | some d =>
      obtain ⟨v, hv, rv⟩ := r.get q
      rw [List.filterMap_cons_some q, List.filterMap_cons_some hv]
      exact ⟨v, _, rfl, rv, ih⟩
theorem RKs.later {G : Gx} {am : Nat → Addr} {M : List Addr} {σ : L2.St} {δ1 δ2 : St3} {H1 H2 : Hp} (S : SR K G E am M σ δ1 H1) (e : Ext G am δ1 H1 H2) : ∀ {vs : List V} {rs : List RD}, RKs K G am M δ1 H1 vs rs → keeps rs → RKs K G am M δ2 H2 vs rs
  | _, _, .nil, _ => .nil
  | _, _, .cons h t, ⟨k, ks⟩ => .cons (h.later S e fun z => (k z).elim) (t.later S e ks)
theorem sim_callP {Ex : XK} {n m : Nat} {perm : List Nat} (h : SimA K (Gf a c) E ta wa) (h' : SimA K (Gf a c) E tk wk) (hd : Dfl K (Gf a c) dvs dd) : SimE K (Gf a c) E (tCallP (lift K Gf C) n m perm dvs Ex ta tk) (wCallP C n m perm dd wa wk) := fun am M σ δ H S Qd q Q k =>
  h am M σ δ H S _ q _ fun vs rs δ1 H1 S1 e1 o1 r1 q => h' am M σ δ1 H1 S1 _ q _ fun zs qs δ2 H2 S2 e2 o2 r2 ⟨k1, k2, l1, l2, hc⟩ =>
    ⟨by rw [r1.length]; exact l1, by rw [r2.length]; exact l2, lift_use S2 (pick_rep ((((r1.later (δ2 := δ2) S1 e2 k1).rep k1).append (r2.rep k2)).append (hd _))) hc fun v r δ' H' S' e' o' rv hq =>
      k v r δ' H' S' ((e1.trans o1 e2).trans (fun i z => o1 i (o2 i z)) e') (fun i z => o1 i (o2 i (o' i z))) rv hq⟩
variable {k : Nat} {f : Addr} {fd : FuncData} {ps ks : List Str} {ds : List Value} {x : Str} {p pos : Pos} {e : Expr} {es : List Expr} {kws : List Keyword}
theorem de_call (F : FnG X.prog X.w X.K X.mg X.base CX0 k f fd ps (lift X.K Gf C)) (hr : Room k X.A) (hg : X.A.guards = some []) (hm : X.mg x = some (.ref f)) (hk : PySem.W.keepIn X.K (.ref f) = true) (hb : Binds X.K fd ps ds) (hv : Vals dvs ds) (hd : Dfl X.K (Gf a c) dvs dd)
    (ha : DA X (Gf a c) (e :: es) ta wa) (gl : Gl X x := by rfl) (hdb : (x == ("__debug__" : Str)) = false := by decide) (he : starEach (e :: es) X.env = (false, eval e X.env) :: starEach es X.env := by rfl) (hpl : (backTo pos (starEach es X.env)).any (·.1) = false := by rfl) :
    DE X (Gf a c) (.Call (.Name x p) (e :: es) [] pos) (tCall (lift X.K Gf C) dvs E0 ta) (wCall C dd wa) := ⟨pg_call F hr hg gl hm hk hb hv pass0 ha.pa hdb he hpl, fun E => sim_call (ha.sim E) hd⟩
theorem de_call0 (F : FnG X.prog X.w X.K X.mg X.base CX0 k f fd ps (lift X.K Gf C)) (hr : Room k X.A) (hg : X.A.guards = some []) (hm : X.mg x = some (.ref f)) (hk : PySem.W.keepIn X.K (.ref f) = true) (hb : Binds X.K fd ps ds) (hv : Vals dvs ds) (hd : Dfl X.K (Gf a c) dvs dd)
    (gl : Gl X x := by rfl) (hdb : (x == ("__debug__" : Str)) = false := by decide) : DE X (Gf a c) (.Call (.Name x p) [] [] pos) (tCall (lift X.K Gf C) dvs E0 tNil) (wCall C dd wNil) := ⟨pg_call0 F hr hg gl hm hk hb hv pass0 hdb, fun E => sim_call sim_nil hd⟩
structure DK (X : Cx) (G : Gx) (kws : List Keyword) (tk : TA) (w : WA) : Prop where
  pk : PK X kws tk
  sim : ∀ E, SimA X.K G E tk w
theorem dk_nil {G : Gx} : DK X G [] tNil wNil := ⟨pk_nil, fun _ => sim_nil⟩
theorem dk_cons {G : Gx} {nm : Option Str} {kpos : Pos} {te : TE} {we : WE} (h : DE X G e te we) (hr : DK X G kws tk wk) : DK X G (⟨nm, e, kpos⟩ :: kws) (tCons te tk) (wCons we wk) := ⟨pk_cons h.pe hr.pk, fun E => sim_cons (h.sim E) (hr.sim E)⟩
theorem de_callK {n m : Nat} {perm : List Nat} (F : FnG X.prog X.w X.K X.mg X.base CX0 k f fd ps (lift X.K Gf C)) (hr : Room k X.A) (hg : X.A.guards = some []) (hm : X.mg x = some (.ref f)) (hk : PySem.W.keepIn X.K (.ref f) = true) (hb : KB X.K fd ps n ks perm ds) (hv : Vals dvs ds) (hd : Dfl X.K (Gf a c) dvs dd)
    (ha : DA X (Gf a c) (e :: es) ta wa) (hkw : DK X (Gf a c) kws tk wk) (gl : Gl X x := by rfl) (hall : (backToKw pos (keywordEach kws X.env)).all (·.1.isSome) = true := by rfl) (hks : (backToKw pos (keywordEach kws X.env)).filterMap (·.1) = ks := by rfl)
    (hdb : (x == ("__debug__" : Str)) = false := by decide) (he : starEach (e :: es) X.env = (false, eval e X.env) :: starEach es X.env := by rfl)
    (hpl : ((backTo pos (starEach (e :: es) X.env)).any (·.1) || (backToKw pos (keywordEach kws X.env)).any (·.1.isNone)) = false := by rfl) (hlen : ks.length = m := by rfl) :
    DE X (Gf a c) (.Call (.Name x p) (e :: es) kws pos) (tCallP (lift X.K Gf C) n m perm dvs E0 ta tk) (wCallP C n m perm dd wa wk) := by subst hlen; exact ⟨pg_callK F hr hg gl hm hk hb hv pass0 ha.pa hkw.pk hall hks hdb he hpl, fun E => sim_callP (ha.sim E) (hkw.sim E) hd⟩
theorem de_callK0 {m : Nat} {perm : List Nat} (F : FnG X.prog X.w X.K X.mg X.base CX0 k f fd ps (lift X.K Gf C)) (hr : Room k X.A) (hg : X.A.guards = some []) (hm : X.mg x = some (.ref f)) (hk : PySem.W.keepIn X.K (.ref f) = true) (hb : KB X.K fd ps 0 ks perm ds) (hv : Vals dvs ds) (hd : Dfl X.K (Gf a c) dvs dd)
    (hkw : DK X (Gf a c) kws tk wk) (gl : Gl X x := by rfl) (hall : (backToKw pos (keywordEach kws X.env)).all (·.1.isSome) = true := by rfl) (hks : (backToKw pos (keywordEach kws X.env)).filterMap (·.1) = ks := by rfl)
    (hdb : (x == ("__debug__" : Str)) = false := by decide) (hpl : ((backTo pos (starEach [] X.env)).any (·.1) || (backToKw pos (keywordEach kws X.env)).any (·.1.isNone)) = false := by rfl) (hlen : ks.length = m := by rfl) :
    DE X (Gf a c) (.Call (.Name x p) [] kws pos) (tCallP (lift X.K Gf C) 0 m perm dvs E0 tNil tk) (wCallP C 0 m perm dd wNil wk) := by subst hlen; exact ⟨pg_callK0 F hr hg gl hm hk hb hv pass0 hkw.pk hall hks hdb hpl, fun E => sim_callP sim_nil (hkw.sim E) hd⟩
end

def fLen : FC
  | [.lst xs], Q => Q (.sh (.int xs.length))
  | [.tup xs], Q => Q (.sh (.int xs.length))
  | [.str z], Q => z.length ≤ 16777216 ∧ Q (.sh (.int z.length))
  | _, _ => False
@[simp] theorem fLen_0  (xs : List D) (Q : RD → Prop) : fLen [.lst xs] Q = (Q (.sh (.int xs.length))) := rfl
@[simp] theorem fLen_1  (xs : List D) (Q : RD → Prop) : fLen [.tup xs] Q = (Q (.sh (.int xs.length))) := rfl
@[simp] theorem fLen_2  (z : Str) (Q : RD → Prop) : fLen [.str z] Q = (z.length ≤ 16777216 ∧ Q (.sh (.int z.length))) := rfl
def fInt : FC
  | [.int i], Q => Q (.sh (.int i))
  | [.bl b], Q => Q (.sh (.int (if b then 1 else 0)))
  | _, _ => False
@[simp] theorem fInt_0  (i : Int) (Q : RD → Prop) : fInt [.int i] Q = (Q (.sh (.int i))) := rfl
@[simp] theorem fInt_1  (b : Bool) (Q : RD → Prop) : fInt [.bl b] Q = (Q (.sh (.int (if b then 1 else 0)))) := rfl
def fAbs : FC
  | [.int i], Q => Q (.sh (.int (if i < 0 then -i else i)))
  | _, _ => False
@[simp] theorem fAbs_0  (i : Int) (Q : RD → Prop) : fAbs [.int i] Q = (Q (.sh (.int (if i < 0 then -i else i)))) := rfl
def fMax2 : FC
  | [.int i, .int j], Q => Q (.sh (.int (if j > i then j else i)))
  | _, _ => False
@[simp] theorem fMax2_0  (i : Int) (j : Int) (Q : RD → Prop) : fMax2 [.int i, .int j] Q = (Q (.sh (.int (if j > i then j else i)))) := rfl
def fMin2 : FC
  | [.int i, .int j], Q => Q (.sh (.int (if j < i then j else i)))
  | _, _ => False
@[simp] theorem fMin2_0  (i : Int) (j : Int) (Q : RD → Prop) : fMin2 [.int i, .int j] Q = (Q (.sh (.int (if j < i then j else i)))) := rfl
def fList : FC
  | [.lst xs], Q => Q (.fr (.lst xs))
  | [.tup xs], Q => Q (.fr (.lst xs))
  | _, _ => False
@[simp] theorem fList_0  (xs : List D) (Q : RD → Prop) : fList [.lst xs] Q = (Q (.fr (.lst xs))) := rfl
@[simp] theorem fList_1  (xs : List D) (Q : RD → Prop) : fList [.tup xs] Q = (Q (.fr (.lst xs))) := rfl
def fTuple : FC
  | [.lst xs], Q => Q (.sh (.tup xs))
  | [.tup xs], Q => Q (.sh (.tup xs))
  | _, _ => False
@[simp] theorem fTuple_0  (xs : List D) (Q : RD → Prop) : fTuple [.lst xs] Q = (Q (.sh (.tup xs))) := rfl
@[simp] theorem fTuple_1  (xs : List D) (Q : RD → Prop) : fTuple [.tup xs] Q = (Q (.sh (.tup xs))) := rfl
def fRepr : FC
  | [d], Q => ∃ p, d.py = some p ∧ p.showable = true ∧ p.hasDict = false ∧ p.depth ≤ 30 ∧ p.shown.length ≤ 16777216 ∧ Q (.sh (.str p.shown))
  | _, _ => False
section
variable {X : Cx} {G : Gx} {K : PySem.W.Frag}
def rLenA (K : PySem.W.Frag) : List V → Hp → VK → Prop := fun xs H Q => (∃ p ys, xs = [.ref p] ∧ (SqL K H p ys ∨ SqT K H p ys) ∧ Q (.int ys.length) H) ∨ ∃ z, xs = [.str z] ∧ z.length ≤ sizeLine ∧ Q (.int z.length) H
theorem call_lenA : CallR X (.builtin "len") (rLenA X.K) := call_len_seq.or call_len_str
theorem calls_len : CallS K G (rLenA K) fLen := fun M H vs ds al b Qd h Q k => by
  match ds, h with
  | [.lst xs], h =>
    obtain ⟨v, rfl, b1⟩ := b.one
    obtain ⟨p, ys, rfl, hy, r⟩ := b1.lst
    exact .inl ⟨p, ys, rfl, .inl (SqL.of hy), by rw [r.length]; exact k _ _ H (Same.refl _) rn_int h⟩
  | [.tup xs], h =>
    obtain ⟨v, rfl, b1⟩ := b.one
    obtain ⟨p, ys, rfl, hy, r⟩ := b1.tup
    exact .inl ⟨p, ys, rfl, .inr hy, by rw [r.length]; exact k _ _ H (Same.refl _) rn_int h⟩
  | [.str z], ⟨h1, h⟩ =>
    obtain ⟨v, rfl, b1⟩ := b.one
    exact .inr ⟨z, by rw [b1.str], by rw [line16]; exact h1, k _ _ H (Same.refl _) rn_int h⟩
theorem calls_int : CallS K G (fun xs H Q => (∃ i, xs = [.int i] ∧ Q (.int i) H) ∨ ∃ k, xs = [.bl k] ∧ Q (.int (if k then 1 else 0)) H) fInt := fun M H vs ds al b Qd h Q k => by
  match ds, h with
  | [.int i], h =>
    obtain ⟨v, rfl, b1⟩ := b.one
    exact .inl ⟨i, by rw [b1.int], k _ _ H (Same.refl _) rn_int h⟩
  | [.bl i], h =>
    obtain ⟨v, rfl, b1⟩ := b.one
    exact .inr ⟨i, by rw [b1.bl], k _ _ H (Same.refl _) rn_int h⟩
theorem calls_abs : CallS K G (fun xs H Q => ∃ i, xs = [.int i] ∧ Q (.int (if i < 0 then -i else i)) H) fAbs := fun M H vs ds al b Qd h Q k => by
  match ds, h with
  | [.int i], h =>
    obtain ⟨v, rfl, b1⟩ := b.one
    exact ⟨i, by rw [b1.int], k _ _ H (Same.refl _) rn_int h⟩
theorem calls_max2 : CallS K G (fun xs H Q => ∃ i j, xs = [.int i, .int j] ∧ Q (.int (if j > i then j else i)) H) fMax2 := fun M H vs ds al b Qd h Q k => by
  match ds, h with
  | [.int i, .int j], h =>
    obtain ⟨v, u, rfl, b1, b2⟩ := b.two
    exact ⟨i, j, by rw [b1.int, b2.int], k _ _ H (Same.refl _) rn_int h⟩
theorem calls_min2 : CallS K G (fun xs H Q => ∃ i j, xs = [.int i, .int j] ∧ Q (.int (if j < i then j else i)) H) fMin2 := fun M H vs ds al b Qd h Q k => by
  match ds, h with
  | [.int i, .int j], h =>
    obtain ⟨v, u, rfl, b1, b2⟩ := b.two
    exact ⟨i, j, by rw [b1.int, b2.int], k _ _ H (Same.refl _) rn_int h⟩
theorem calls_list : CallS K G (fun xs H Q => ∃ p ys, xs = [.ref p] ∧ (SqL K H p ys ∨ SqT K H p ys) ∧ ∀ l, H l = none → Q (.ref l) (upd H l (.lst ys))) fList := fun M H vs ds al b Qd h Q k => by
  match ds, h with
  | [.lst xs], h =>
    obtain ⟨v, rfl, b1⟩ := b.one
    obtain ⟨p, ys, rfl, hy, r⟩ := b1.lst
    exact ⟨p, ys, rfl, .inl (SqL.of hy), fun l hl => k _ _ _ (same_new hl) (rn_lst hl r) h⟩
  | [.tup xs], h =>
    obtain ⟨v, rfl, b1⟩ := b.one
    obtain ⟨p, ys, rfl, hy, r⟩ := b1.tup
    exact ⟨p, ys, rfl, .inr hy, fun l hl => k _ _ _ (same_new hl) (rn_lst hl r) h⟩
theorem calls_tuple : CallS K G (fun xs H Q => ∃ p ys, xs = [.ref p] ∧ ((SqL K H p ys ∧ ∀ l, H l = none → Q (.ref l) (upd H l (.tup ys))) ∨ (SqT K H p ys ∧ Q (.ref p) H))) fTuple := fun M H vs ds al b Qd h Q k => by
  match ds, h with
  | [.lst xs], h =>
    obtain ⟨v, rfl, b1⟩ := b.one
    obtain ⟨p, ys, rfl, hy, r⟩ := b1.lst
    exact ⟨p, ys, rfl, .inl ⟨SqL.of hy, fun l hl => k _ _ _ (same_new hl) (rn_tup al hl r) h⟩⟩
  | [.tup xs], h =>
    obtain ⟨v, rfl, b1⟩ := b.one
    have bb := b1
    obtain ⟨p, ys, rfl, hy, r⟩ := b1.tup
    exact ⟨p, ys, rfl, .inr ⟨hy, k _ _ _ (Same.refl _) (rn_sh bb.shT) h⟩⟩
/-- repr of data -/
def rRepr (K : PySem.W.Frag) : List V → Hp → VK → Prop := fun xs H Q => ∃ v p, xs = [v] ∧ Dp K H v p ∧ p.showable = true ∧ p.hasDict = false ∧ p.depth ≤ 30 ∧ p.shown.length ≤ sizeLine ∧ Q (.str p.shown) H
theorem call_reprA (hg : X.A.guards = some []) (hu : X.A.units + 64 < cLine) : CallR X (.builtin "repr") (rRepr X.K) := by
  intro pins s σ H xs us Q I r h
  obtain ⟨v, p, rfl, hd, h1, h2, h3, h4, q⟩ := h
  obtain ⟨u, rfl, ru⟩ := vals1 r
  obtain ⟨as, rd⟩ := Dp.reads I p v u hd ru
  cases p with
  | none => cases rd; exact PySem.P.repr_of_none ⟨.str _, H, I.tok _, ⟨_, rfl⟩, q⟩
  | bool b =>
    cases rd
    refine PySem.P.repr_of_bool ⟨.str _, H, I.tok _, ⟨_, rfl⟩, ?_⟩
    cases b <;> exact q
  | int i => cases rd; exact PySem.P.repr_of_int (of_decide_eq_true h1) ⟨.str _, H, I.tok _, ⟨_, rfl⟩, q⟩
  | str x => cases rd; exact PySem.P.repr_of_str ⟨.str _, H, I.tok _, ⟨_, rfl⟩, q⟩ h4
  | dict _ => cases h2
  | list ps =>
    cases rd with
    | list e1 e2 e3 e4 => exact repr_of_reads' (.list e1 e2 e3 e4) h1 (PyData.noDict_hsm h2) hg (by omega) (fun _ _ e => e) (fun h' u tk hk => ⟨.str _, H, I.kept hk, ⟨_, rfl⟩, q⟩) h4
  | tuple ps =>
    cases rd with
    | tuple e1 e2 e3 e4 => exact repr_of_reads' (.tuple e1 e2 e3 e4) h1 (PyData.noDict_hsm h2) hg (by omega) (fun _ _ e => e) (fun h' u tk hk => ⟨.str _, H, I.kept hk, ⟨_, rfl⟩, q⟩) h4
theorem calls_repr : CallS K G (rRepr K) fRepr := fun M H vs ds al b Qd h Q k => by
  match ds, h with
  | [d], ⟨p, e, h1, h2, h3, h4, h⟩ =>
    obtain ⟨v, rfl, b1⟩ := b.one
    exact ⟨v, p, rfl, b1.dp e, h1, h2, h3, by rw [line16]; exact h4, k _ _ H (Same.refl _) rn_str h⟩
end
end L3
namespace L3
open PySem PySem.Spec PyProof.Rows L2
/-- the heap in which at most the script is tracked -/
def Scr (a : Addr) (o : Obj) (xs : List V) (H : Hp) : Prop := ∀ b u, H b = some u → b = a ∧ u = .frz o (.lst xs)
theorem law_callG {P : Program} {w : World} {K : PySem.W.Frag} {mg mb : Str → Option Value} {k : Nat} {fa a : Addr} {fd : FuncData} {x : Str} {sp : Sp} {s₁ : Shared} {vs : List Value} {ns : List Int}
    (kx : K.In s₁.heap) (g1 : s₁.heap.Ns mainGlobals mg) (g2 : s₁.heap.Ns builtinsNs mb) (g3 : ∀ x : Str, x ≠ "__name__" → mb x = bootBuiltins x) (nl : s₁.heap.NoLimit) (ng : s₁.gens = #[])
    (ha : s₁.heap.get? a = some { cls := .type "list", data := .seq vs.toArray }) (hi : IntsAre vs ns) (hl : ns.length ≤ sizeLine) (hr : Room k callerA)
    (F : ∀ base : Heap, K.In base → base.Ns mainGlobals mg → FnG P w K mg base CX0 k fa fd [x] sp) (bt : ∀ (s : Shared) (u : Value), BindsTo s fd ⟨[u], []⟩ [(x, u)])
    (hsp : ∀ H : Hp, SqL K H a (ns.map V.int) → sp [.ref a] H (fun v _ => v = .bl true) fun _ _ _ => False) :
    codeAny (model P w) callerA (.call (.ref fa) ⟨[.ref a], []⟩) (fun r s' => r = .ok (.ret (.bool true)) ∧ OldK s₁.heap s'.heap ∧ s'.os = s₁.os ∧ AllBare s'.gens) s₁ := by
  have rv := vals_ints hi
  obtain ⟨H, hS, sc, hK⟩ : ∃ H : Hp, SqL K H a (ns.map V.int) ∧ Scr a { cls := .type "list", data := .seq vs.toArray } (ns.map V.int) H ∧ (H a ≠ none → K.lookup a = none) := by
    cases q : K.lookup a with
    | none =>
      refine ⟨fun b => if b = a then some (.frz { cls := .type "list", data := .seq vs.toArray } (.lst (ns.map V.int))) else none, .inl (.inr ⟨_, if_pos rfl⟩), fun b u e => ?_, fun _ => rfl⟩
      by_cases z : b = a
      · exact ⟨z, (Option.some.inj ((if_pos z).symm.trans e)).symm⟩
      · cases (if_neg z).symm.trans e
    | some o =>
      have e := kx a o q
      rw [ha] at e
      cases e
      refine ⟨fun _ => none, .inr ⟨_, vs.toArray, _, q, rfl, rfl, rfl, by rw [List.size_toArray, hi.length]; exact hl, rv⟩, ?_, fun z => absurd rfl z⟩
      intro b u e
      cases e
  have hok : HOk P w H s₁.heap := fun b u e => by
    obtain ⟨rfl, rfl⟩ := sc b u e
    exact ⟨ha, by rw [List.length_map]; exact hl, vs, _, rv, ha⟩
  -- what is written at the top is not the script
  have dictNo : ∀ {b : Addr} {o : Obj} {es : Array DictEntry} {ep : Nat}, s₁.heap.get? b = some o → o.data = .dict es ep → H b = none := fun {b o es ep} e d => by
    cases q : H b with
    | none => rfl
    | some u =>
      obtain ⟨rfl, _⟩ := sc b u q
      rw [ha] at e
      cases e
      exact nomatch d
  have toNs : ∀ {b : Addr} {m : Str → Option Value}, s₁.heap.Ns b m → (hidT s₁.heap H).Ns b m := by
    rintro b m ⟨o, es, ep, e, d, r⟩
    exact ⟨o, es, ep, hidT_get e (dictNo e d), d, r⟩
  have kb : K.In (hidT s₁.heap H) := fun b o e => hidT_get (kx b o e) (by
    cases q : H b with
    | none => rfl
    | some u =>
      obtain ⟨rfl, _⟩ := sc b u q
      rw [hK (by rw [q]; simp)] at e
      cases e)
  obtain ⟨mc, n1, n2⟩ := nl
  have e0 : Env0 P w K mg (hidT s₁.heap H) callerA [] s₁ H :=
    { frames := rfl, mod := ⟨kb, toNs g1, ⟨mb, toNs g2, g3⟩, ⟨mc, toNs n1, n2⟩⟩, bs := fun b o e => of_hidT e, bsz := Nat.le_of_eq (hidT_size _ _), funs := trivial, frf := fun b hb => (by cases hb), hok := hok, bare := .of_eq ng }
  have run := (F _ kb (toNs g1)).go callerA [] s₁ H ⟨[.ref a], []⟩ [.ref a] [.ref a] _ _ ⟨hr, rfl⟩ e0 (bt s₁ (.ref a)) (.cons rfl .nil) (hsp H hS)
  refine codeAny_mono run fun r s' h => ?_
  match r, h with
  | .error _, h => exact False.elim h
  | .ok .next, h => exact False.elim h
  | .ok .brk, h => exact False.elim h
  | .ok .cont, h => exact False.elim h
  | .ok (.ret u), ⟨v, H', os, bare, un, hok', r', q⟩ =>
    have q : v = .bl true := q
    subst q
    have r' : u = Value.bool true := r'
    subst r'
    refine ⟨rfl, OldK.of_keep fun b o e => ?_, os, bare⟩
    cases z : H b with
    | none => exact un.keep b o e z (fun m => nomatch m) (fun m => nomatch m)
    | some y =>
      obtain ⟨rfl, rfl⟩ := sc b y z
      rw [ha] at e
      cases e
      exact (hok' _ _ (un.frzs _ _ _ z)).1
/-- the goal that k_head leaves -/
theorem walk_ofG {l : PySem.W.OpenLaw} {n k : Nat} {q : Program} {loose : List Str} {XP : (Str → Option Value) → Heap → Prop} {YP : World → Heap → Prop} {d : DefRec} {K : Params → PySem.W.Frag} {sp : PySem.W.Frag → Sp} {x : Str}
    (hn : l.most = some n) (hn2 : n ≤ sizeLine) (hdf : d.params.defaults = []) (hr : Room k callerA) (hY : ∀ (w : World) (h : Heap), YP w h → (K w.params).In h)
    (F : ∀ (w : World) (mg : Str → Option Value) (fa : Addr) (h : Heap), (K w.params).In h → h.Ns mainGlobals mg → mg d.name = some (.ref fa) →
      ∃ fd : FuncData, (∀ (s : Shared) (u : Value), BindsTo s fd ⟨[u], []⟩ [(x, u)]) ∧ ∀ base : Heap, (K w.params).In base → base.Ns mainGlobals mg → FnG l.prog w (K w.params) mg base CX0 k fa fd [x] (sp (K w.params)))
    (hsp : ∀ (K : PySem.W.Frag) (H : Hp) (a : Addr) (ns : List Int), ns.length ≤ n → SqL K H a (ns.map V.int) → sp K [.ref a] H (fun v _ => v = .bl true) fun _ _ _ => False) :
    PySem.W.WalkO q loose XP YP l.row.toRowW d [] (fun f vs => PySem.call f vs) :=
  Att.attach_call hn hdf fun w s₀ s₁ mg mb fa o pm cd doc a vs ns G Y ho hd hcd hmg hobj hints hlen hg => by
    obtain ⟨fd, b1, b2⟩ := F w mg fa _ (hY w _ Y) G.T.g hmg
    exact law_callG (hY w _ Y) G.T.g G.T.b G.T.builtins G.T.nolimit hg hobj hints (Nat.le_trans hlen hn2) hr b2 b1 fun H hS => hsp _ H a ns hlen hS
end L3
namespace L3
open PySem PySem.Spec PyProof.Rows L2
/-- the own list of a slot -/
@[simp] def ownL (δ : St3) (i : Nat) (ds : List D) : Prop := δ.sl[i]? = some (some (SV.ow (.lst ds)))
@[simp] def wAppend (i : Nat) (w : WE) : WS := fun De δ => (∃ ds0, ownL δ i ds0) ∧ w δ fun r δ1 => ¬ r.bor ∧ ∃ ds, ownL δ1 i ds ∧ ds.length < 16777216 ∧ De.nx ⟨δ1.sl.set i (some (.ow (.lst (ds ++ [r.d])))), δ1.n⟩
@[simp] def wExtend (i : Nat) (w : WE) : WS := fun De δ => (∃ ds0, ownL δ i ds0) ∧ w δ fun r δ1 => ∃ ds es, ownL δ1 i ds ∧ r.d = .lst es ∧ ds.length + es.length ≤ 16777216 ∧ De.nx ⟨δ1.sl.set i (some (.ow (.lst (ds ++ es)))), δ1.n⟩
@[simp] def wPop (i : Nat) : WE := fun δ Q => ∃ ds d, ownL δ i (ds ++ [d]) ∧ Q (.sh d) ⟨δ.sl.set i (some (.ow (.lst ds))), δ.n⟩
@[simp] def wPopAt (i : Nat) (w : WE) : WE := fun δ Q => (∃ ds0, ownL δ i ds0) ∧ w δ fun r δ1 => ∃ ds z k d, ownL δ1 i ds ∧ r.d = .int z ∧ -(2 ^ 63) ≤ z ∧ z < 2 ^ 63 ∧ seqIndex? z ds.length = some k ∧ ds[k]? = some d ∧ Q (.sh d) ⟨δ1.sl.set i (some (.ow (.lst (ds.eraseIdx k)))), δ1.n⟩
section
variable {X : Cx} {G : Gx} {K : PySem.W.Frag} {E : Ent} {te : TE} {we : WE} {e o : Expr} {pos apos : Pos} {i : Nat}
theorem own_mut {δ : St3} {i j : Nat} {d d' : D} (h : δ.sl[i]? = some (some (SV.ow d))) (hj : isOwn ⟨δ.sl.set i (some (.ow d')), δ.n⟩ j) : isOwn δ j := by
  obtain ⟨e, hj⟩ := hj
  rcases get_set hj with ⟨q, z⟩ | ⟨q, z⟩
  · subst q; exact ⟨d, h⟩
  · exact ⟨e, z⟩
theorem sim_append (h : ∀ E, SimE K G E te we) : SimS K G (tDrop (tBM K "list" rAppend (tVar i) (tCons te tNil))) (wAppend i we) := fun E am M σ δ H S D3 ⟨⟨ds0, h0⟩, q⟩ De R => by
  obtain ⟨a1, a2, a3, a4, xs0, a5, a6⟩ := S.ow i _ h0
  refine ⟨_, a1, .inl ⟨rfl, xs0, SqL.of a5⟩, ?_⟩
  refine h E am M σ δ H S _ q _ fun v r δ1 H1 S1 e1 o1 rv ⟨nb, ds, h1, sz, q⟩ => ?_
  obtain ⟨b1, b2, b3, b4, xs, b5, b6⟩ := S1.ow i _ h1
  refine ⟨am i, xs, v, rfl, rfl, b5, by rw [b6.length, line16]; exact sz, R.nx am M _ _ _ (S1.mut (d' := .lst (ds ++ [r.d])) h1 ⟨xs ++ [v], upd_same, ?_⟩ rfl) q⟩
  rw [mask_upd b2]
  exact b6.append (RepAll.one (rv.k.rep nb))
theorem ds_append (i : Nat) {x : Str} {p pos2 : Pos} (he : DE X G e te we) (hx : PE X (.Name x p) (tVar i)) (hbase : attributeBase (.Name x p) "append" X.env (eval (.Name x p) X.env) = eval (.Name x p) X.env := by rfl)
    (hfew : ((backTo pos (starEach [e] X.env)).all (fun x => !x.1) && (backToKw pos (keywordEach [] X.env)).all (fun x => x.1.isSome) && decide (([e] : List Expr).length + ([] : List Keyword).length + (if ([] : List Keyword).isEmpty then 0 else 1) < 30)) = true := by rfl)
    (hline : (apos.endLine == pos.line) = true := by rfl) (hst : starEach [e] X.env = (false, eval e X.env) :: starEach [] X.env := by rfl)
    (hs : swapsWith (.Call (.Attribute (.Name x p) "append" apos) [e] [] pos) none pos2.line X.env = pure false := by rfl) : DS X G (.Expr (.Call (.Attribute (.Name x p) "append" apos) [e] [] pos) pos2) (tDrop (tBM X.K "list" rAppend (tVar i) (tCons te tNil))) (wAppend i we) :=
  ⟨ps_expr (pe_bm PySem.F.plainAttrs_list PySem.F.slot_list_append PySem.F.type_list_append mt_append hx (pa_cons he.pe pa_nil hst) hbase hfew hline hst rfl) hs, sim_append he.sim⟩
theorem sim_extend (h : ∀ E, SimE K G E te we) : SimS K G (tDrop (tBM K "list" rExtend (tVar i) (tCons te tNil))) (wExtend i we) := fun E am M σ δ H S D3 ⟨⟨ds0, h0⟩, q⟩ De R => by
  obtain ⟨a1, a2, a3, a4, xs0, a5, a6⟩ := S.ow i _ h0
  refine ⟨_, a1, .inl ⟨rfl, xs0, SqL.of a5⟩, ?_⟩
  refine h E am M σ δ H S _ q _ fun v r δ1 H1 S1 e1 o1 rv ⟨ds, es, h1, er, sz, q⟩ => ?_
  obtain ⟨b1, b2, b3, b4, xs, b5, b6⟩ := S1.ow i _ h1
  have rb := rv.k.rb S1
  rw [er] at rb
  obtain ⟨p, ys, rfl, hy, ry⟩ := rb.lst
  refine ⟨am i, p, xs, ys, rfl, rfl, b5, hy, by rw [b6.length, ry.length, line16]; exact sz, R.nx am M _ _ _ (S1.mut (d' := .lst (ds ++ es)) h1 ⟨xs ++ ys, upd_same, ?_⟩ rfl) q⟩
  rw [mask_upd b2]
  exact b6.append ry
theorem ds_extend (i : Nat) {x : Str} {p pos2 : Pos} (he : DE X G e te we) (hx : PE X (.Name x p) (tVar i)) (hbase : attributeBase (.Name x p) "extend" X.env (eval (.Name x p) X.env) = eval (.Name x p) X.env := by rfl)
    (hfew : ((backTo pos (starEach [e] X.env)).all (fun x => !x.1) && (backToKw pos (keywordEach [] X.env)).all (fun x => x.1.isSome) && decide (([e] : List Expr).length + ([] : List Keyword).length + (if ([] : List Keyword).isEmpty then 0 else 1) < 30)) = true := by rfl)
    (hline : (apos.endLine == pos.line) = true := by rfl) (hst : starEach [e] X.env = (false, eval e X.env) :: starEach [] X.env := by rfl)
    (hs : swapsWith (.Call (.Attribute (.Name x p) "extend" apos) [e] [] pos) none pos2.line X.env = pure false := by rfl) : DS X G (.Expr (.Call (.Attribute (.Name x p) "extend" apos) [e] [] pos) pos2) (tDrop (tBM X.K "list" rExtend (tVar i) (tCons te tNil))) (wExtend i we) :=
  ⟨ps_expr (pe_bm PySem.F.plainAttrs_list PySem.F.slot_list_extend PySem.F.type_list_extend mt_extend hx (pa_cons he.pe pa_nil hst) hbase hfew hline hst rfl) hs, sim_extend he.sim⟩
theorem sim_pop : SimE K G E (tBM0 K "list" rPop (tVar i)) (wPop i) := fun am M σ δ H S Qd ⟨ds, d, h0, q⟩ Q k => by
  obtain ⟨a1, a2, a3, a4, xs, a5, a6⟩ := S.ow i _ h0
  have hl : xs.length = ds.length + 1 := by rw [a6.length]; simp
  obtain ⟨v, hv, rv⟩ := a6.get (i := ds.length) (d := d) (by simp)
  refine ⟨_, a1, .inl ⟨rfl, xs, SqL.of a5⟩, am i, xs, v, rfl, rfl, a5, by rw [hl]; exact hv, ?_⟩
  have S' := S.mut (o := .lst xs.dropLast) (d' := .lst ds) h0 ⟨xs.dropLast, upd_same, by
    rw [mask_upd a2]
    have := a6.dropLast
    rwa [List.dropLast_concat] at this⟩ rfl
  exact k v (.sh d) _ _ S' (fun b u hb _ ho => by rw [upd_ne fun z => ho i ⟨_, h0⟩ z.symm]; exact hb) (fun j z => own_mut h0 z) (show Rep K G _ v d by rw [mask_upd a2]; exact rv) q
theorem sim_popAt (h : ∀ E, SimE K G E te we) : SimE K G E (tBM K "list" rPopAt (tVar i) (tCons te tNil)) (wPopAt i we) := fun am M σ δ H S Qd ⟨⟨ds0, h0⟩, q⟩ Q k => by
  obtain ⟨a1, a2, a3, a4, xs0, a5, a6⟩ := S.ow i _ h0
  refine ⟨_, a1, .inl ⟨rfl, xs0, SqL.of a5⟩, ?_⟩
  refine h E am M σ δ H S _ q _ fun v r δ1 H1 S1 e1 o1 rv ⟨ds, z, j, d, h1, er, z1, z2, hj, hd, q⟩ => ?_
  obtain ⟨b1, b2, b3, b4, xs, b5, b6⟩ := S1.ow i _ h1
  have rb := rv.k.rb S1
  rw [er] at rb
  have ev := rb.int
  subst ev
  obtain ⟨y, hy, ry⟩ := b6.get hd
  refine ⟨am i, xs, z, j, y, rfl, rfl, b5, z1, z2, by rw [b6.length]; exact hj, hy, ?_⟩
  have S' := S1.mut (o := .lst (xs.eraseIdx j)) (d' := .lst (ds.eraseIdx j)) h1 ⟨xs.eraseIdx j, upd_same, by
    rw [mask_upd b2]
    exact b6.eraseIdx j⟩ rfl
  refine k y (.sh d) _ _ S' (e1.trans o1 fun b u hb _ ho => by rw [upd_ne fun z => ho i ⟨_, h1⟩ z.symm]; exact hb) (fun j z => o1 j (own_mut h1 z)) (show Rep K G _ y d by rw [mask_upd b2]; exact ry) q
theorem de_pop (i : Nat) {x : Str} {p : Pos} (hx : PE X (.Name x p) (tVar i)) (hbase : attributeBase (.Name x p) "pop" X.env (eval (.Name x p) X.env) = eval (.Name x p) X.env := by rfl) (hline : (apos.endLine == pos.line) = true := by rfl) :
    DE X G (.Call (.Attribute (.Name x p) "pop" apos) [] [] pos) (tBM0 X.K "list" rPop (tVar i)) (wPop i) := ⟨pe_bm0 PySem.F.plainAttrs_list PySem.F.slot_list_pop PySem.F.type_list_pop mt_pop hx hbase hline, fun _ => sim_pop⟩
theorem de_popAt (i : Nat) {x : Str} {p : Pos} (he : DE X G e te we) (hx : PE X (.Name x p) (tVar i)) (hbase : attributeBase (.Name x p) "pop" X.env (eval (.Name x p) X.env) = eval (.Name x p) X.env := by rfl)
    (hfew : ((backTo pos (starEach [e] X.env)).all (fun x => !x.1) && (backToKw pos (keywordEach [] X.env)).all (fun x => x.1.isSome) && decide (([e] : List Expr).length + ([] : List Keyword).length + (if ([] : List Keyword).isEmpty then 0 else 1) < 30)) = true := by rfl)
    (hline : (apos.endLine == pos.line) = true := by rfl) (hst : starEach [e] X.env = (false, eval e X.env) :: starEach [] X.env := by rfl) :
    DE X G (.Call (.Attribute (.Name x p) "pop" apos) [e] [] pos) (tBM X.K "list" rPopAt (tVar i) (tCons te tNil)) (wPopAt i we) := ⟨pe_bm PySem.F.plainAttrs_list PySem.F.slot_list_pop PySem.F.type_list_pop mt_popAt hx (pa_cons he.pe pa_nil hst) hbase hfew hline hst rfl, fun _ => sim_popAt he.sim⟩
end
end L3
namespace L3
open PySem PySem.Spec PyProof.Rows L2
/-- a list, a tuple, a text -/
def iSeq (K : PySem.W.Frag) (te : TE) : TI := fun σ H R => te σ H fun x H1 =>
  (∃ a, x = .ref a ∧ (∃ xs, SqL K H1 a xs) ∧ R (Itl K a) H1) ∨ (∃ a, x = .ref a ∧ (∃ xs, SqT K H1 a xs) ∧ R (Itt K a) H1)
theorem pi_seq {X : Cx} {tg e : Expr} {te : TE} (he : PE X e te) : PI X tg e (iSeq X.K te) := by
  refine ⟨fun pins s σ H R I h => thn (he.run pins s σ H _ I h) fun v s1 ⟨x, H1, I1, r1, q1⟩ => ?_⟩
  have fresh : ∀ (o : Obj) (b : Addr), b ∈ [s1.heap.objs.size] → FpOk X pins H1 b := fun o b hb => by
    rw [List.mem_singleton.mp hb]
    exact I1.fpOk (Nat.le_refl _) (I1.hok.fresh (Nat.le_refl _))
  rcases q1 with ⟨a, rfl, ⟨xs, hq⟩, q⟩ | ⟨a, rfl, ⟨xs, hq⟩, q⟩
  · cases r1
    obtain ⟨its, rv, p, hz⟩ := I1.list hq
    exact wpAny_pyIter_list p.isList ⟨_, [s1.heap.objs.size], _, Itl X.K a, H1, rfl, I1.kept (t' := s1.toks) fun b o e => Heap.get?_push_of_some _ e, turn_list a _, ⟨_, Heap.get?_push_size _ rfl, rfl, rfl⟩, fresh { cls := .none, data := .fields #[] }, q⟩
  · cases r1
    obtain ⟨its, rv, p, hz⟩ := I1.tuple hq
    exact wpAny_pyIter_tuple (show s1.heap.IsTuple a its.toArray from p) ⟨_, [s1.heap.objs.size], _, Itt X.K a, H1, rfl, I1.kept (t' := s1.toks) fun b o e => Heap.get?_push_of_some _ e, turn_tuple a _, ⟨_, Heap.get?_push_size _ rfl, rfl, rfl⟩, fresh { cls := .none, data := .fields #[] }, q⟩
def asS : D → Option (List D)
  | .lst ds => some ds
  | .tup ds => some ds
  | _ => none
@[simp] theorem asS_0  (ds : List D) : asS (.lst ds) = (some ds) := rfl
@[simp] theorem asS_1  (ds : List D) : asS (.tup ds) = (some ds) := rfl
section
variable {X : Cx} {G : Gx} {K : PySem.W.Frag} {E : Ent} {tg e : Expr} {te : TE} {we : WE}
theorem sim_iS (h : SimE K G E te we) : SimI K G E (iSeq K te) (wItems asS we) := fun am M σ δ H S Rd q R k =>
  h am M σ δ H S _ q _ fun v r δ1 H1 S1 e1 o1 rv ⟨nb, ds, hd, hR⟩ => by
    have rr := rv.k.rep nb
    cases q : r.d with
    | lst ds' =>
      rw [q] at hd rr
      cases hd
      obtain ⟨a, xs, rfl, hs, r2⟩ := id rr
      refine .inl ⟨a, rfl, ⟨xs, SqL.of (mask_le _ _ hs)⟩, k (Itl K a) ds [(.ref a, .lst ds)] δ1 H1 (S1.addgh _ fun p hp => ?_) e1 o1 iterL hR⟩
      have : p = (V.ref a, D.lst ds) := by simpa using hp
      subst this
      exact rr
    | tup ds' =>
      rw [q] at hd rr
      cases hd
      obtain ⟨a, xs, rfl, hs, r2⟩ := id rr
      refine .inr ⟨a, rfl, ⟨xs, same_t mask_le hs⟩, k (Itt K a) ds [(.ref a, .tup ds)] δ1 H1 (S1.addgh _ fun p hp => ?_) e1 o1 iterT hR⟩
      have : p = (V.ref a, D.tup ds) := by simpa using hp
      subst this
      exact rr
    | _ => rw [q] at hd; cases hd
theorem di_seq (h : DE X G e te we) : DI X G tg e (iSeq X.K te) (wItems asS we) := ⟨pi_seq h.pe, fun E => sim_iS (h.sim E)⟩
end
end L3
namespace L3
open PySem PySem.Spec PyProof.Rows L2
section
variable {X : Cx} {G : Gx} {a b e : Expr} {ta tb te : TE} {wa wb we : WE} {pos p : Pos}
theorem op_eqK (K : PySem.W.Frag) (hu : X.A.units + 64 < cLine) (hK : X.K = K := by rfl) : OpR X (compareOp .Eq) (rEqA K) := by subst hK; exact op_eqA hu
theorem op_neK (K : PySem.W.Frag) (hu : X.A.units + 64 < cLine) (hK : X.K = K := by rfl) : OpR X (compareOp .NotEq) (rNeA K) := by subst hK; exact op_neA hu
theorem op_inK (K : PySem.W.Frag) (hK : X.K = K := by rfl) : OpR X (compareOp .In) (rIn K false) := by subst hK; exact op_in_seq
theorem op_niK (K : PySem.W.Frag) (hK : X.K = K := by rfl) : OpR X (compareOp .NotIn) (rIn K true) := by subst hK; exact op_notIn_seq
theorem op_addK (K : PySem.W.Frag) (hK : X.K = K := by rfl) : OpR X (binaryOp .Add) (rAddA K) := by subst hK; exact op_addA
theorem call_lenK (K : PySem.W.Frag) (hK : X.K = K := by rfl) : CallR X (.builtin "len") (rLenA K) := by subst hK; exact call_lenA
theorem call_reprK (K : PySem.W.Frag) (hg : X.A.guards = some []) (hu : X.A.units + 64 < cLine) (hK : X.K = K := by rfl) : CallR X (.builtin "repr") (rRepr K) := by subst hK; exact call_reprA hg hu
def rListC (K : PySem.W.Frag) : List V → Hp → VK → Prop := fun xs H Q => ∃ p ys, xs = [.ref p] ∧ (SqL K H p ys ∨ SqT K H p ys) ∧ ∀ l, H l = none → Q (.ref l) (upd H l (.lst ys))
def rTupleC (K : PySem.W.Frag) : List V → Hp → VK → Prop := fun xs H Q => ∃ p ys, xs = [.ref p] ∧ ((SqL K H p ys ∧ ∀ l, H l = none → Q (.ref l) (upd H l (.tup ys))) ∨ (SqT K H p ys ∧ Q (.ref p) H))
theorem call_listK (K : PySem.W.Frag) (hK : X.K = K := by rfl) : CallR X (.type "list") (rListC K) := by subst hK; exact call_list_of
theorem call_tupleK (K : PySem.W.Frag) (hK : X.K = K := by rfl) : CallR X (.type "tuple") (rTupleC K) := by subst hK; exact call_tuple_of
theorem de_ixK (K : PySem.W.Frag) (ha : DE X G a ta wa) (hb : DE X G b tb wb) (hs : PlainIx b := by exact fun _ _ => rfl) (hK : X.K = K := by rfl) : DE X G (.Subscript a b pos) (tOp (rIx K) ta tb) (wOp fIx wa wb) := by subst hK; exact de_ix ha hb hs
theorem de_addK (K : PySem.W.Frag) (ha : DE X G a ta wa) (hb : DE X G b tb wb) (hK : X.K = K := by rfl) : DE X G (.BinOp a .Add b pos) (tOp (rAddA K) ta tb) (wOp fAdd wa wb) := by subst hK; exact de_add ha hb
theorem di_seqK (K : PySem.W.Frag) {tg : Expr} (h : DE X G e te we) (hK : X.K = K := by rfl) : DI X G tg e (iSeq K te) (wItems asS we) := by subst hK; exact di_seq h
theorem dg_tupK (K : PySem.W.Frag) {es : List Expr} {k : Nat} {t : TGs} {ws : WGs} {us : List Nat} {n : Nat} (hc : X.calm = true) (h : DGs X G es us t ws) (hn : (assignEach es X.env).length = n := by rfl) (hst : (assignEach es X.env).findIdx? (·.1) = none := by rfl) (hK : X.K = K := by rfl) :
    DG X G (.Tuple es k pos) us (gTup K n t) (gTup3 n ws) := by subst hK; exact dg_tup hc h hn hst
end
section
variable {X : Cx} {Gf : Addr → Addr → Gx} {a c : Addr} {C : Con} {dd : List D} {dvs : List V} {ta tk : TA} {wa wk : WA} {k : Nat} {f : Addr} {fd : FuncData} {ps ks : List Str} {ds : List Value} {x : Str} {p pos : Pos} {e : Expr} {es : List Expr} {kws : List Keyword}
theorem de_callX (K : PySem.W.Frag) (F : FnG X.prog X.w K X.mg X.base CX0 k f fd ps (lift K Gf C)) (hr : Room k X.A) (hg : X.A.guards = some []) (hm : X.mg x = some (.ref f)) (hk : PySem.W.keepIn K (.ref f) = true) (hb : Binds K fd ps ds) (hv : Vals dvs ds) (hd : Dfl K (Gf a c) dvs dd)
    (ha : DA X (Gf a c) (e :: es) ta wa) (gl : Gl X x := by rfl) (hdb : (x == ("__debug__" : Str)) = false := by decide) (he : starEach (e :: es) X.env = (false, eval e X.env) :: starEach es X.env := by rfl) (hpl : (backTo pos (starEach es X.env)).any (·.1) = false := by rfl) (hK : X.K = K := by rfl) :
    DE X (Gf a c) (.Call (.Name x p) (e :: es) [] pos) (tCall (lift K Gf C) dvs E0 ta) (wCall C dd wa) := by subst hK; exact de_call F hr hg hm hk hb hv hd ha gl hdb he hpl
theorem de_callX0 (K : PySem.W.Frag) (F : FnG X.prog X.w K X.mg X.base CX0 k f fd ps (lift K Gf C)) (hr : Room k X.A) (hg : X.A.guards = some []) (hm : X.mg x = some (.ref f)) (hk : PySem.W.keepIn K (.ref f) = true) (hb : Binds K fd ps ds) (hv : Vals dvs ds) (hd : Dfl K (Gf a c) dvs dd)
    (gl : Gl X x := by rfl) (hdb : (x == ("__debug__" : Str)) = false := by decide) (hK : X.K = K := by rfl) : DE X (Gf a c) (.Call (.Name x p) [] [] pos) (tCall (lift K Gf C) dvs E0 tNil) (wCall C dd wNil) := by subst hK; exact de_call0 F hr hg hm hk hb hv hd gl hdb
theorem de_callXK {n m : Nat} {perm : List Nat} (K : PySem.W.Frag) (F : FnG X.prog X.w K X.mg X.base CX0 k f fd ps (lift K Gf C)) (hr : Room k X.A) (hg : X.A.guards = some []) (hm : X.mg x = some (.ref f)) (hk : PySem.W.keepIn K (.ref f) = true) (hb : KB K fd ps n ks perm ds) (hv : Vals dvs ds) (hd : Dfl K (Gf a c) dvs dd)
    (ha : DA X (Gf a c) (e :: es) ta wa) (hkw : DK X (Gf a c) kws tk wk) (gl : Gl X x := by rfl) (hall : (backToKw pos (keywordEach kws X.env)).all (·.1.isSome) = true := by rfl) (hks : (backToKw pos (keywordEach kws X.env)).filterMap (·.1) = ks := by rfl)
    (hdb : (x == ("__debug__" : Str)) = false := by decide) (he : starEach (e :: es) X.env = (false, eval e X.env) :: starEach es X.env := by rfl)
    (hpl : ((backTo pos (starEach (e :: es) X.env)).any (·.1) || (backToKw pos (keywordEach kws X.env)).any (·.1.isNone)) = false := by rfl) (hlen : ks.length = m := by rfl) (hK : X.K = K := by rfl) :
    DE X (Gf a c) (.Call (.Name x p) (e :: es) kws pos) (tCallP (lift K Gf C) n m perm dvs E0 ta tk) (wCallP C n m perm dd wa wk) := by subst hK; exact de_callK F hr hg hm hk hb hv hd ha hkw gl hall hks hdb he hpl hlen
theorem de_callXK0 {m : Nat} {perm : List Nat} (K : PySem.W.Frag) (F : FnG X.prog X.w K X.mg X.base CX0 k f fd ps (lift K Gf C)) (hr : Room k X.A) (hg : X.A.guards = some []) (hm : X.mg x = some (.ref f)) (hk : PySem.W.keepIn K (.ref f) = true) (hb : KB K fd ps 0 ks perm ds) (hv : Vals dvs ds) (hd : Dfl K (Gf a c) dvs dd)
    (hkw : DK X (Gf a c) kws tk wk) (gl : Gl X x := by rfl) (hall : (backToKw pos (keywordEach kws X.env)).all (·.1.isSome) = true := by rfl) (hks : (backToKw pos (keywordEach kws X.env)).filterMap (·.1) = ks := by rfl)
    (hdb : (x == ("__debug__" : Str)) = false := by decide) (hpl : ((backTo pos (starEach [] X.env)).any (·.1) || (backToKw pos (keywordEach kws X.env)).any (·.1.isNone)) = false := by rfl) (hlen : ks.length = m := by rfl) (hK : X.K = K := by rfl) :
    DE X (Gf a c) (.Call (.Name x p) [] kws pos) (tCallP (lift K Gf C) 0 m perm dvs E0 tNil tk) (wCallP C 0 m perm dd wNil wk) := by subst hK; exact de_callK0 F hr hg hm hk hb hv hd hkw gl hall hks hdb hpl hlen
end
end L3
namespace L3
open PySem PySem.Spec PyProof.Rows L2
theorem tuple_mul1 (l : Addr) (items : Array Value) (n : Nat) (dd : Option Addr) (sl : Array (Option Value)) (u : Tok) :
    Meets (Builtin.«tuple.__mul__» ⟨[.ref l, .int 1 u], []⟩) (fun _ R s => s.heap.get? l = some { cls := .type "tuple", dict := dd, data := .seq items n, slots := sl } ∧ R (.ok (.ret (.ref l))) s) :=
  .of_wp fun prog w A R s h => by
    obtain ⟨hp, g, d, tk, os⟩ := s
    obtain ⟨hl, h⟩ := h
    have f1 := AutoSeq1.idx_int
    wp_walk using wpAny_loadPart' hl
    repeat (first
      | (refine wpAny_ite_false (by decide) ?_; wp_walk using wpAny_loadPart' hl)
      | (refine wpAny_ite_true (by simp) ?_; wp_walk using wpAny_loadPart' hl))
    exact ⟨_, rfl, h⟩
def rRepA (K : PySem.W.Frag) : R2 := fun x y H Q => ∃ l k xs, x = .ref l ∧ y = .int k ∧ SqT K H l xs ∧ xs ≠ [] ∧ 1 ≤ k ∧ k ≤ 1000 ∧ xs.length ≤ 1000 ∧ (k = 1 → Q (.ref l) H) ∧ (k ≠ 1 → ∀ p, H p = none → Q (.ref p) (upd H p (.tup (List.replicate k.toNat xs).flatten)))
section
variable {X : Cx} {G : Gx} {K : PySem.W.Frag} {a b : Expr} {ta tb : TE} {wa wb : WE} {pos : Pos}
theorem op_repA : OpR X (binaryOp .Mult) (rRepA X.K) := by
  intro pins s σ H x y v u Q I rx ry h
  obtain ⟨l, k, xs, rfl, rfl, hT, hne, h1, h2, hz, q1, q2⟩ := h
  by_cases e : k = 1
  · subst e
    cases rx
    obtain ⟨t, rfl⟩ := ry
    obtain ⟨its, r, ⟨⟨cls, dd, data, sl⟩, ho, hc, n, hd⟩, hs⟩ := I.tuple hT
    simp only at hc hd
    subst hc hd
    refine wpAny_binaryOp_repeat_ref (T := "tuple") (U := "int") (by decide) ⟨_, ho, rfl⟩ (fun s' => typeIs_int s' 1 t) noFill_tuple_mul F.fills_int_mul F.slot_int_rmul repeat_tuple F.slot_int_index.lookup ?_
    refine call_meets F.slot_int_rmul (typeIs_int s 1 t) F.entry_int_rmul (F.args_int_rmul_2 _ _) (int_rmul_tuple 1 t l its.toArray n dd sl) ⟨ho, rfl, ⟨_, ho, rfl⟩, ?_⟩
    exact call_meets F.slot_tuple_mul ⟨_, ho, rfl⟩ F.entry_tuple_mul (F.args_tuple_mul_2 _ _) (tuple_mul1 l its.toArray n dd sl t) ⟨ho, .ref l, H, I, rfl, q1 rfl⟩
  · exact op_repT pins s σ H _ _ v u Q I rx ry ⟨l, k, xs, rfl, rfl, hT, hne, by omega, h2, hz, q2 e⟩
def fMulA : F2
  | .tup ds, .int j, Q => ds ≠ [] ∧ 1 ≤ j ∧ j ≤ 1000 ∧ ds.length ≤ 1000 ∧ Q (.sh (.tup (List.replicate j.toNat ds).flatten))
  | d, e, Q => fMul d e Q
@[simp] theorem fMulA_0 (i j : Int) (Q : RD → Prop) : fMulA (.int i) (.int j) Q = (CMulW i j ∧ Q (.sh (.int (i * j)))) := rfl
@[simp] theorem fMulA_1 (ds : List D) (j : Int) (Q : RD → Prop) : fMulA (.lst ds) (.int j) Q = (j < 2 ^ 62 ∧ -(2 ^ 62) ≤ j ∧ ds.length * j.toNat ≤ 16777216 ∧ Q (.fr (.lst (List.replicate j.toNat ds).flatten))) := rfl
@[simp] theorem fMulA_2 (ds : List D) (j : Int) (Q : RD → Prop) : fMulA (.tup ds) (.int j) Q = (ds ≠ [] ∧ 1 ≤ j ∧ j ≤ 1000 ∧ ds.length ≤ 1000 ∧ Q (.sh (.tup (List.replicate j.toNat ds).flatten))) := rfl
theorem ops_mulA : OpS K G (fun x y H Q => rMulA x y H Q ∨ rRepA K x y H Q) fMulA := fun M H x y d e al bx by' Qd h Q k => by
  by_cases z : ∃ ds j, d = .tup ds ∧ e = .int j
  · obtain ⟨ds, j, rfl, rfl⟩ := z
    obtain ⟨h0, h1, h2, h3, q⟩ := h
    have bb := bx
    obtain ⟨p, xs, rfl, hp, r⟩ := bx.tup
    refine .inr ⟨p, j, xs, rfl, by'.int, hp, fun w => ?_, h1, h2, by rw [r.length]; exact h3, fun e => ?_, fun _ p' hp' => ?_⟩
    · subst w
      exact h0 (List.length_eq_zero_iff.mp r.length.symm)
    · subst e
      have ef : (List.replicate (1 : Int).toNat ds).flatten = ds := by simp
      rw [ef] at q
      exact k _ _ H (Same.refl _) (rn_sh bb.shT) q
    · exact k _ _ _ (same_new hp') (rn_tup al hp' (r.rep _)) q
  · refine .inl (ops_mul M H x y d e al bx by' Qd ?_ Q k)
    cases d <;> cases e <;> first | exact h | exact (z ⟨_, _, rfl, rfl⟩).elim
theorem de_mulK (K : PySem.W.Frag) (ha : DE X G a ta wa) (hb : DE X G b tb wb) (hK : X.K = K := by rfl) : DE X G (.BinOp a .Mult b pos) (tOp (fun x y H Q => rMulA x y H Q ∨ rRepA K x y H Q) ta tb) (wOp fMulA wa wb) := by
  subst hK
  exact de_op (op_mulA.or op_repA) ops_mulA ha hb
end
/-- what is never asked for -/
def Cno : Con := fun _ _ _ => False
theorem FnG.never {P : Program} {w : World} {K : PySem.W.Frag} {mg : Str → Option Value} {base : Heap} {k : Nat} {f : Addr} {fd : FuncData} {ps : List Str} {Gf : Addr → Addr → Gx} : FnG P w K mg base CX0 k f fd ps (lift K Gf Cno) :=
  ⟨fun vs H Q E ⟨_, _, _, _, _, _, _, _, _, _, h, _⟩ => h.elim, fun A outer s H args us vs Q E _ _ _ _ ⟨_, _, _, _, _, _, _, _, _, _, h, _⟩ => h.elim⟩
end L3
namespace L3
open PySem PySem.Spec PyProof.Rows L2
def kCells : Key := Sum.inr "cells"
def kBlend : Key := Sum.inr "blend"
def kDraws : Key := Sum.inr "draws"
theorem k_cb : kCells ≠ kBlend := by decide +kernel
theorem k_cd : kCells ≠ kDraws := by decide +kernel
theorem k_bd : kBlend ≠ kDraws := by decide +kernel
def dkv (c : Addr) (b t : Int) : List (Key × V) := [(kCells, .ref c), (kBlend, .int b), (kDraws, .int t)]
theorem dkv_c {c : Addr} {b t : Int} : valV (dkv c b t) kCells = some (.ref c) := valV_pos rfl
theorem dkv_b {c : Addr} {b t : Int} : valV (dkv c b t) kBlend = some (.int b) := (valV_neg k_cb).trans (valV_pos rfl)
theorem dkv_d {c : Addr} {b t : Int} : valV (dkv c b t) kDraws = some (.int t) := (valV_neg k_cd).trans ((valV_neg k_bd).trans (valV_pos rfl))
theorem dkv_put {c : Addr} {b t u : Int} : putK (dkv c b t) kDraws (.int u) = dkv c b u := by
  unfold putK
  rw [valV_any, dkv_d, if_pos (show (some (V.int t)).isSome = true from rfl)]
  show [if kCells = kDraws then (kCells, V.int u) else (kCells, .ref c), if kBlend = kDraws then (kBlend, V.int u) else (kBlend, .int b), if kDraws = kDraws then (kDraws, V.int u) else (kDraws, .int t)] = _
  rw [if_neg k_cd, if_neg k_bd, if_pos rfl]
  all_goals rfl
/-- the deck stands at p, its cells at c; at most n draws were made -/
def DkA (p c : Addr) (n : Nat) (H : Hp) : Prop := ∃ (ns : List Int) (b t : Int), H p = some (.dK (dkv c b t)) ∧ H c = some (.lst (ns.map V.int)) ∧ ns.length ≤ 63 ∧ 0 ≤ b ∧ b < 2147483587 ∧ 0 ≤ t ∧ t ≤ n
def GA (cls : Nat → Addr) (fld : Nat → List Str) (p c : Addr) : Gx where
  cls := cls
  fld := fld
  deck := p
  dk := [p, c]
  DI := DkA p c
  frame := fun n H H' h ⟨ns, b, t, h1, h2, h3⟩ => ⟨ns, b, t, h p (by simp) _ h1, h c (by simp) _ h2, h3⟩
  dal := fun n H ⟨ns, b, t, h1, h2, _⟩ a ha => by
    have ha : a = p ∨ a = c := by simpa using ha
    rcases ha with z | z
    · rw [z, h1]; simp
    · rw [z, h2]; simp
/-- most draws that a law may make -/
def mostDraws : Nat := 2 ^ 40
/-- a draw: any number below the bound -/
def CdrawA : Con := fun ds n Q => ∃ m : Int, ds = [.deck, .int m] ∧ 1 ≤ m ∧ m.natAbs.log2 < 9000 ∧ n < mostDraws ∧ ∀ r : Int, 0 ≤ r → r < m → Q (.int r) (n + 1)
theorem dp_ints {K : PySem.W.Frag} {H : Hp} : ∀ ns : List Int, DpAll K H (ns.map V.int) (ns.map PyData.int)
  | [] => .nil
  | n :: ns => .cons (.int n) (dp_ints ns)
theorem lay_ints : ∀ ns : List Int, PyData.canLayAll0 (ns.map PyData.int) = true
  | [] => rfl
  | n :: ns => by
    show (PyData.canLay0 (.int n) && PyData.canLayAll0 (ns.map PyData.int)) = true
    rw [lay_ints ns]
    rfl
theorem depth_ints : ∀ ns : List Int, PyData.depthAll (ns.map PyData.int) = 0
  | [] => rfl
  | n :: ns => by
    show max (PyData.depth (.int n)) (PyData.depthAll (ns.map PyData.int)) = 0
    rw [depth_ints ns]
    rfl
theorem shaped_ints (ns : List Int) : SeqAt.shaped (.list (ns.map PyData.int)) = true := by
  unfold SeqAt.shaped
  rw [Bool.and_eq_true]
  refine ⟨lay_ints ns, decide_eq_true ?_⟩
  show PyData.depthAll (ns.map PyData.int) + 1 ≤ 64
  rw [depth_ints]
  omega
theorem shaped_tints (ns : List Int) : SeqAt.shaped (.tuple (ns.map PyData.int)) = true := by
  unfold SeqAt.shaped
  rw [Bool.and_eq_true]
  refine ⟨lay_ints ns, decide_eq_true ?_⟩
  show PyData.depthAll (ns.map PyData.int) + 1 ≤ 64
  rw [depth_ints]
  omega
theorem eqv_ints_nil (ns : List Int) : PyData.eqv (.list (ns.map PyData.int)) (.list []) = ns.isEmpty := by
  cases ns <;> rfl
section
variable {K : PySem.W.Frag} {cls : Nat → Addr} {fld : Nat → List Str}
/-- what a draw does ahead of its own mixing -/
def tDrawA (K : PySem.W.Frag) (rest : TS) : TS :=
  tSeq (sDPut (tVar 0) (tC (.str "draws")) (tOp (rI0 fun i j => .int (i + j)) (tDGet (tVar 0) (tC (.str "draws"))) (tC (.int 1))))
  (tSeq (tPar 2 3 (tCons (tDGet (tVar 0) (tC (.str "draws"))) (tCons (tDGet (tVar 0) (tC (.str "blend"))) tNil)))
  (tSeq (tIfS (tTest (tOp (rNeD K) (tDGet (tVar 0) (tC (.str "cells"))) (tLst tNil)))
    (tSeq (tAsg (tBM0 K "list" rPop (tDGet (tVar 0) (tC (.str "cells")))) (gName 3))
    (tSeq (tIfS (tTest (tOp (rI0 fun i j => .bl (decide (j ≤ i))) (tVar 3) (tOp (rI CPow fun i j => .int (i ^ j.toNat)) (tC (.int 10)) (tC (.int 18)))))
      (tSeq (tDrop (tBM K "list" rAppend (tDGet (tVar 0) (tC (.str "cells"))) (tCons (tOp (rI CDivA fun i j => .int (i.fdiv j)) (tVar 3) (tVar 1)) tNil)))
        (tRet (tOp (rI (fun _ j => j ≠ 0) fun i j => .int (i.fmod j)) (tCB (fun xs H Q => (∃ i, xs = [.int i] ∧ Q (.int i) H) ∨ ∃ k, xs = [.bl k] ∧ Q (.int (if k then 1 else 0)) H) (tCons (tVar 3) tNil)) (tVar 1)))) tNext)
      (tAsg (tOp (rI0 fun i j => .int (i + j)) (tVar 3) (tDGet (tVar 0) (tC (.str "blend")))) (gName 3)))) tNext) rest))
theorem rd_drawA {rest : TS} {wr : WS} {N : List Str} {vs : List V} {H : Hp} {Q : VK} {Ex : XK} (hN : 4 ≤ N.length) (hs : ∀ p c, SimS K (GA cls fld p c) rest wr)
    (hw : ∀ (m turn cell : Int) (n : Nat) (Qd : D → Nat → Prop), 1 ≤ m → m.natAbs.log2 < 9000 → 0 ≤ turn → turn ≤ 2 ^ 40 → (∀ r : Int, 0 ≤ r → r < m → Qd (.int r) n) →
      wr ⟨fun δ => Qd .non δ.n, Qd, fun _ => False, fun _ => False⟩ ⟨some (.sh .deck) :: some (.sh (.int m)) :: some (.sh (.int turn)) :: some (.sh (.int cell)) :: List.replicate (N.length - 4) none, n⟩)
    (h : lift K (GA cls fld) CdrawA vs H Q Ex) : tDrawA K rest { nx := fun _ H' => Q .non H', rt := Q } (L2.start N vs) H := by
  obtain ⟨p, c, ads, ds, n, Qd, hk, ha, di, r, ⟨m, rfl, m1, m2, hn, hq⟩, q⟩ := h
  have S0 := start_sr (N := N) (am := fun _ => 0) hk ha di r
  obtain ⟨x, xs, rfl, e1, y, ys, rfl, e2, e3⟩ := r
  have e1 : x = .ref p := e1
  have e2 : y = .int m := e2
  have e3 : ys = [] := e3
  subst e1 e2 e3
  obtain ⟨ns, b, t, h1, h2, hl, b0, b1, t0, t1⟩ := di
  have pc : p ≠ c := ne_of h1 h2 (by intro z; cases z)
  obtain ⟨L, hL⟩ : ∃ L, N.length = L + 4 := ⟨N.length - 4, by omega⟩
  have st : L2.start N [.ref p, .int m] = some (.ref p) :: some (.int m) :: none :: none :: List.replicate L none := by
    unfold L2.start
    rw [show N.length - ([V.ref p, V.int m] : List V).length = L + 2 by simp [hL]]
    rfl
  have st3 : start3 N [.deck, .int m] = some (.sh .deck) :: some (.sh (.int m)) :: none :: none :: List.replicate L none := by
    unfold start3
    rw [show N.length - ([D.deck, D.int m] : List D).length = L + 2 by simp [hL]]
    rfl
  have hL4 : N.length - 4 = L := by omega
  rw [hL4] at hw
  rw [st, st3] at S0
  rw [st]
  -- deck["draws"] = deck["draws"] + 1
  refine ⟨.ref p, rfl, p, .int t, rfl, ?_, t, 1, rfl, rfl, .ref p, rfl, p, _, rfl, DPut.k (k := kDraws) h1 (small1000 (by show 3 ≤ 1000; omega)), ?_⟩
  · have := DGet.k (k := kDraws) h1; rw [dkv_d] at this; exact this
  rw [dkv_put]
  have g1 : upd H p (.dK (dkv c b (t + 1))) p = some (.dK (dkv c b (t + 1))) := upd_same
  have g2 : upd H p (.dK (dkv c b (t + 1))) c = some (.lst (ns.map V.int)) := by rw [upd_ne pc.symm]; exact h2
  have gd : ∀ {H : Hp} {b t : Int}, H p = some (.dK (dkv c b t)) → DGet H p (.str "draws") (some (.int t)) := fun h => by
    have := DGet.k (k := kDraws) h; rw [dkv_d] at this; exact this
  have gb : ∀ {H : Hp} {b t : Int}, H p = some (.dK (dkv c b t)) → DGet H p (.str "blend") (some (.int b)) := fun h => by
    have := DGet.k (k := kBlend) h; rw [dkv_b] at this; exact this
  have gc : ∀ {H : Hp} {b t : Int}, H p = some (.dK (dkv c b t)) → DGet H p (.str "cells") (some (.ref c)) := fun h => by
    have := DGet.k (k := kCells) h; rw [dkv_c] at this; exact this
  -- turn, cell = deck["draws"], deck["blend"]
  refine ⟨.ref p, rfl, p, .int (t + 1), rfl, gd g1, .ref p, rfl, p, .int b, rfl, gb g1, _, _, rfl, ?_⟩
  -- the end by the rest
  have fin : ∀ (cell : Int) (H' : Hp) (ms : List Int), H' p = some (.dK (dkv c b (t + 1))) → H' c = some (.lst (ms.map V.int)) → ms.length ≤ 63 → (∀ x o, H x = some o → x ∉ [p, c] → H' x = some o) →
      rest { nx := fun _ H' => Q .non H', rt := Q } (some (.ref p) :: some (.int m) :: some (.int (t + 1)) :: some (.int cell) :: List.replicate L none) H' := fun cell H' ms k1 k2 k3 k4 => by
    have di' : DkA p c (n + 1) H' := ⟨ms, b, t + 1, k1, k2, k3, b0, b1, by omega, by omega⟩
    have S1 := (S0.after (n := n + 1) k4 di')
    have S2 := (S1.set_sh (i := 2) (v := .int (t + 1)) (d := .int (t + 1)) rfl).set_sh (i := 3) (v := .int cell) (d := .int cell) rfl
    refine hs p c _ _ _ _ _ _ S2 _ (hw m (t + 1) cell (n + 1) Qd m1 m2 (by omega) ?_ hq) _ ⟨fun am M σ δ H' S' z => q .non .non _ H' S'.base S'.di rfl z, fun _ _ _ _ _ _ z => z, fun _ _ _ _ _ _ z => z, fun v d n' H' rv hb di z => q v d n' H' hb di rv z⟩
    have : n < 2 ^ 40 := hn
    omega
  -- if deck["cells"] != []
  refine ⟨.ref p, rfl, p, .ref c, rfl, gc g1, Nat.zero_le _, fun l hl0 => ?_⟩
  have lp : p ≠ l := ne_of_none g1 hl0
  have lc : c ≠ l := ne_of_none g2 hl0
  have f1 : upd (upd H p (.dK (dkv c b (t + 1)))) l (.lst []) p = some (.dK (dkv c b (t + 1))) := by rw [upd_ne lp]; exact g1
  have f2 : upd (upd H p (.dK (dkv c b (t + 1)))) l (.lst []) c = some (.lst (ns.map V.int)) := by rw [upd_ne lc]; exact g2
  have f0 : ∀ x o, H x = some o → x ∉ [p, c] → upd (upd H p (.dK (dkv c b (t + 1)))) l (.lst []) x = some o := fun x o hx hn => by
    have n1 : x ≠ p := fun z => hn (by simp [z])
    have n2 : x ≠ l := by
      refine ne_of_none (H := upd H p (.dK (dkv c b (t + 1)))) (o := o) ?_ hl0
      rw [upd_ne n1]; exact hx
    rw [upd_ne n2, upd_ne n1]; exact hx
  refine ⟨.list (ns.map PyData.int), .list [], .lst (SqL.of f2) (dp_ints ns), .lst (SqL.of upd_same) .nil, shaped_ints ns, rfl, _, rfl, ?_⟩
  rw [eqv_ints_nil]
  cases hns : ns with
  | nil =>
    rw [hns] at f2
    exact fin b _ [] f1 f2 (Nat.zero_le _) f0
  | cons n0 ns0 =>
    rw [if_pos (show (!(n0 :: ns0).isEmpty) = true from rfl)]
    rw [hns] at f2 hl
    obtain ⟨ms, z, ez⟩ : ∃ ms z, n0 :: ns0 = ms ++ [z] := ⟨(n0 :: ns0).dropLast, (n0 :: ns0).getLast (List.cons_ne_nil _ _), (List.dropLast_concat_getLast _).symm⟩
    rw [ez] at f2 hl
    have em : (ms ++ [z]).map V.int = ms.map V.int ++ [V.int z] := by rw [List.map_append]; rfl
    rw [em] at f2
    have lm : ms.length ≤ 62 := by rw [List.length_append] at hl; simp at hl; omega
    -- cell = deck["cells"].pop()
    refine ⟨.ref p, rfl, p, .ref c, rfl, gc f1, .inl ⟨rfl, _, SqL.of f2⟩, c, _, .int z, rfl, rfl, f2, by simp, ?_⟩
    rw [List.dropLast_concat]
    have u1 : upd (upd (upd H p (.dK (dkv c b (t + 1)))) l (.lst [])) c (.lst (ms.map V.int)) p = some (.dK (dkv c b (t + 1))) := by rw [upd_ne pc]; exact f1
    have u0 : ∀ (o' : HO) x o, H x = some o → x ∉ [p, c] → upd (upd (upd H p (.dK (dkv c b (t + 1)))) l (.lst [])) c o' x = some o := fun o' x o hx hn => by
      have n1 : x ≠ c := fun w => hn (by simp [w])
      rw [upd_ne n1]; exact f0 x o hx hn
    -- if cell >= 10 ** 18
    refine ⟨.int z, rfl, 10, 18, rfl, rfl, ⟨by decide, by decide, by decide⟩, _, _, rfl, rfl, _, rfl, ite2 (fun _ => ?_) (fun _ => ?_)⟩
    · -- deck["cells"].append(cell // many); return int(cell) % many
      refine ⟨.ref p, rfl, p, .ref c, rfl, gc u1, .inl ⟨rfl, _, SqL.of upd_same⟩, .int z, rfl, .int m, rfl, z, m, rfl, rfl, ⟨by omega, m2⟩, c, _, _, rfl, rfl, upd_same, ?_, ?_⟩
      · rw [List.length_map]; exact small1000 (by omega)
      · refine ⟨.int z, rfl, .inl ⟨z, rfl, .int m, rfl, z, m, rfl, rfl, by omega, ?_⟩⟩
        have um : (upd (upd (upd (upd H p (.dK (dkv c b (t + 1)))) l (.lst [])) c (.lst (ms.map V.int))) c (.lst (ms.map V.int ++ [V.int (z.fdiv m)]))) = upd (upd (upd H p (.dK (dkv c b (t + 1)))) l (.lst [])) c (.lst (ms.map V.int ++ [V.int (z.fdiv m)])) := upd_upd
        rw [um]
        refine q (.int (z.fmod m)) (.int (z.fmod m)) (n + 1) _ (u0 _) ⟨ms ++ [z.fdiv m], b, t + 1, ?_, ?_, ?_, b0, b1, by omega, by omega⟩ rfl (hq _ (Int.fmod_nonneg_of_pos _ (by omega)) (Int.fmod_lt_of_pos _ (by omega)))
        · rw [upd_ne pc]; exact f1
        · rw [upd_same, List.map_append]; rfl
        · rw [List.length_append]; simp; omega
    · -- cell = cell + deck["blend"]
      refine ⟨.int z, rfl, .ref p, rfl, p, .int b, rfl, gb u1, z, b, rfl, rfl, ?_⟩
      exact fin (z + b) _ ms u1 upd_same (by omega) (u0 _)
end
end L3
namespace L3
open PySem PySem.Spec PyProof.Rows L2
abbrev tInt1 (ta : TA) : TE := tCB (fun xs H Q => (∃ i, xs = [.int i] ∧ Q (.int i) H) ∨ ∃ k, xs = [.bl k] ∧ Q (.int (if k then 1 else 0)) H) ta
abbrev tModN (a b : TE) : TE := tOp (rI (fun _ j => j ≠ 0) fun i j => .int (i.fmod j)) a b
abbrev tAddI (a b : TE) : TE := tOp (rI0 fun i j => .int (i + j)) a b
abbrev tMulI (a b : TE) : TE := tOp (rI CMul fun i j => .int (i * j)) a b
section
variable {K : PySem.W.Frag} {cls : Nat → Addr} {fld : Nat → List Str}
def tDeckA (K : PySem.W.Frag) (c0 k1 : Int) : TS :=
  tSeq (tPar 1 2 (tCons (tCB (fun xs H Q => ∃ p ys, xs = [.ref p] ∧ (SqL K H p ys ∨ SqT K H p ys) ∧ ∀ l, H l = none → Q (.ref l) (upd H l (.lst ys))) (tCons (tSl (rSlL K) (tVar 0) tNoPart (tPart (tC (.int 63)))) tNil)) (tCons (tC (.int c0)) tNil)))
  (tSeq (tFor (iList K (tVar 1)) (gName 3) (tAsg (tModN (tInt1 (tCons (tAddI (tAddI (tMulI (tVar 2) (tC (.int 48271))) (tModN (tInt1 (tCons (tVar 3) tNil)) (tC (.int 2147483629)))) (tC (.int k1))) tNil)) (tC (.int 2147483587))) (gName 2)))
  (tRet (tDisp [(tC (.str "cells"), tRevL K (tVar 1)), (tC (.str "blend"), tVar 2), (tC (.str "draws"), tC (.int 0))])))
def spDeckA (K : PySem.W.Frag) : Sp := fun vs H Q _ => ∃ (a : Addr) (ns : List Int), vs = [.ref a] ∧ SqL K H a (ns.map V.int) ∧ ns.length ≤ 63 ∧
  ∀ (p c : Addr) (H' : Hp), Same H H' → DkA p c 0 H' → H p = none → H c = none → Q (.ref p) H'
theorem merge_dkv {q : Addr} {b t : Int} : mergeK [] (dkv q b t) = dkv q b t := by
  show putK (putK (putK [] kCells (.ref q)) kBlend (.int b)) kDraws (.int t) = _
  have e1 : putK ([] : List (Key × V)) kCells (.ref q) = [(kCells, .ref q)] := putK_new _ rfl
  have e2 : putK [(kCells, V.ref q)] kBlend (.int b) = [(kCells, .ref q), (kBlend, .int b)] := putK_new _ ((valV_neg k_cb).trans rfl)
  have e3 : putK [(kCells, V.ref q), (kBlend, V.int b)] kDraws (.int t) = [(kCells, .ref q), (kBlend, .int b), (kDraws, .int t)] := putK_new _ ((valV_neg k_cd).trans ((valV_neg k_bd).trans rfl))
  rw [e1, e2, e3]
  all_goals rfl
theorem rd_deckA {c0 k1 : Int} {N : List Str} {vs : List V} {H : Hp} {Q : VK} {Ex : XK} (hN : N.length = 4) (hc0 : 0 ≤ c0 ∧ c0 < 2147483587) (h : spDeckA K vs H Q Ex) : tDeckA K c0 k1 { nx := fun _ H' => Q .non H', rt := Q } (L2.start N vs) H := by
  obtain ⟨a, ns, rfl, hS, hl, q⟩ := h
  have st : L2.start N [.ref a] = [some (.ref a), none, none, none] := by
    unfold L2.start
    rw [show N.length - ([V.ref a] : List V).length = 3 by simp [hN]]
    rfl
  rw [st]
  -- cells, blend = list(script[:63]), c0
  refine ⟨.ref a, rfl, 63, rfl, a, _, rfl, hS, fun p1 hp1 => ?_⟩
  have s1 := same_new (o := .lst (cutV (ns.map V.int) none (some 63))) hp1
  refine ⟨p1, _, rfl, .inl (SqL.of upd_same), fun l hl0 => ?_⟩
  have ecut : cutV (ns.map V.int) none (some 63) = ns.map V.int := by
    unfold cutV
    rw [HT.sIx_none, show HT.sIx (ns.map V.int).length (ns.map V.int).length (some 63) = min 63 (ns.map V.int).length from HT.sIx_nat _ _ 63, List.length_map, Nat.sub_zero, List.drop_zero]
    exact List.take_of_length_le (by rw [List.length_map]; omega)
  rw [ecut] at s1 hl0 ⊢
  have s2 := s1.trans (same_new (o := .lst (ns.map V.int)) hl0)
  refine ⟨_, _, rfl, ?_⟩
  -- the loop
  have hlst : upd (upd H p1 (.lst (ns.map V.int))) l (.lst (ns.map V.int)) l = some (.lst (ns.map V.int)) := upd_same
  refine ⟨.ref l, rfl, l, rfl, ⟨_, SqL.of hlst⟩, for_list (K := K) (a := l) (xs := ns.map V.int) (fun i σ H3 => ∃ (b : Int) (x : Option V), σ = [some (.ref a), some (.ref l), some (.int b), x] ∧ H3 = upd (upd H p1 (.lst (ns.map V.int))) l (.lst (ns.map V.int)) ∧ 0 ≤ b ∧ b < 2147483587)
    ⟨c0, none, rfl, rfl, hc0⟩ (fun i σ H3 _ ⟨_, _, _, e, _⟩ => by rw [e]; exact SqL.of hlst) ?_ ?_⟩
  · rintro i x σ H3 hx ⟨b, y, rfl, rfl, b0, b1⟩
    obtain ⟨z, rfl⟩ : ∃ z, x = V.int z := by
      rw [List.getElem?_map] at hx
      cases e : ns[i]? with
      | none => rw [e] at hx; cases hx
      | some z => rw [e] at hx; exact ⟨z, (Option.some.inj hx).symm⟩
    refine ⟨.int b, rfl, b, 48271, rfl, rfl, .inl ⟨by omega, by omega⟩, .int z, rfl, .inl ⟨z, rfl, z, 2147483629, rfl, rfl, (show (2147483629 : Int) ≠ 0 by decide), _, _, rfl, rfl, _, _, rfl, rfl, .inl ⟨_, rfl, _, 2147483587, rfl, rfl, (show (2147483587 : Int) ≠ 0 by decide), ?_⟩⟩⟩
    exact ⟨_, _, rfl, rfl, Int.fmod_nonneg_of_pos _ (by decide), Int.fmod_lt_of_pos _ (by decide)⟩
  · rintro σ H3 ⟨b, y, rfl, rfl, b0, b1⟩
    -- return {..}
    intro p hp
    have pl : l ≠ p := ne_of_none hlst hp
    refine ⟨.ref l, rfl, l, _, rfl, SqL.of (by rw [upd_ne pl]; exact hlst), fun c hc => ?_⟩
    have pc : p ≠ c := ne_of_none (H := upd _ p (.dK [])) upd_same hc
    refine ⟨.int b, rfl, by rw [upd_ne pc, upd_same], dkv c b 0, rfl, (show 3 ≤ 15 by omega), ?_⟩
    rw [merge_dkv]
    have sp : Same _ _ := same_new (o := .dK []) hp
    have s3 : Same H (upd (upd (upd (upd H p1 (.lst (ns.map V.int))) l (.lst (ns.map V.int))) p (.dK [])) c (.lst (ns.map V.int).reverse)) := (s2.trans (same_new hp)).trans (same_new hc)
    refine q p c _ (fun x o hx => ?_) ⟨ns.reverse, b, 0, upd_same, ?_, by rw [List.length_reverse]; exact hl, b0, b1, Int.le_refl _, Int.le_refl _⟩ (s2.free hp) ((s2.trans (same_new hp)).free hc)
    · rw [upd_ne (ne_of_none (s2 _ _ hx) hp)]
      exact s3 x o hx
    · rw [upd_ne pc.symm, upd_same, List.map_reverse]
/-- the law: its deck, then the rest over data; it hands back True -/
def spLaw (K : PySem.W.Frag) : Sp := fun vs H Q _ => ∃ (a : Addr) (ns : List Int), vs = [.ref a] ∧ SqL K H a (ns.map V.int) ∧ ns.length ≤ 63 ∧ ∀ H', Q (.bl true) H'
theorem rd_lawA {rest : TS} {wr : WS} {N : List Str} {vs : List V} {H : Hp} {Q : VK} {Ex E1 : XK} (hN : 2 ≤ N.length) (hs : ∀ p c, SimS K (GA cls fld p c) rest wr)
    (hw : wr ⟨fun _ => False, fun d _ => d = .bl true, fun _ => False, fun _ => False⟩ ⟨none :: some (.sh .deck) :: List.replicate (N.length - 2) none, 0⟩)
    (h : spLaw K vs H Q Ex) : tSeq (tAsg (tCall (spDeckA K) [] E1 (tCons (tVar 0) tNil)) (gName 1)) rest { nx := fun _ H' => Q .non H', rt := Q } (L2.start N vs) H := by
  obtain ⟨a, ns, rfl, hS, hl, q⟩ := h
  obtain ⟨L, hL⟩ : ∃ L, N.length = L + 2 := ⟨N.length - 2, by omega⟩
  have st : L2.start N [.ref a] = some (.ref a) :: none :: List.replicate L none := by
    unfold L2.start
    rw [show N.length - ([V.ref a] : List V).length = L + 1 by simp [hL]]
    rfl
  rw [show N.length - 2 = L by omega] at hw
  rw [st]
  refine ⟨.ref a, rfl, a, ns, rfl, hS, hl, fun p c H1 s1 dk hp hc => ?_⟩
  have dk' := dk
  obtain ⟨cs, b, t, h1, h2, _⟩ := dk'
  have S : SR K (GA cls fld p c) ⟨H1, [p, c], [], none⟩ (fun _ => 0) [p, c] (some (.ref a) :: some (.ref p) :: List.replicate L none) ⟨none :: some (.sh .deck) :: List.replicate L none, 0⟩ H1 := by
    have no : ∀ (i : Nat) (x : SV), (none :: some (.sh .deck) :: List.replicate L none : List (Option SV))[i]? = some (some x) → i = 1 ∧ x = .sh .deck := fun i x e => by
      match i with
      | 0 => cases e
      | 1 => exact ⟨rfl, by injection e with e; injection e with e; exact e.symm⟩
      | i + 2 =>
        have e : (List.replicate L (none : Option SV))[i]? = some (some x) := e
        rw [List.getElem?_replicate] at e
        split at e <;> cases e
    refine ⟨by simp, fun i d e => ?_, fun i d e => ?_, fun i j ⟨d, e⟩ _ _ => ?_, fun a z => z, fun a z => z, fun a z => ?_, fun b o e _ => e, dk, fun p hp => (by cases hp), fun x hx => (by cases hx)⟩
    · obtain ⟨rfl, e2⟩ := no i _ e
      cases e2
      exact ⟨_, rfl, rfl⟩
    · obtain ⟨_, e2⟩ := no i _ e
      cases e2
    · obtain ⟨_, e2⟩ := no i _ e
      cases e2
    · exact (GA cls fld p c).dal 0 H1 dk a z
  exact hs p c _ _ _ _ _ _ S _ hw _ ⟨fun _ _ _ _ _ _ z => z.elim, fun _ _ _ _ _ _ z => z.elim, fun _ _ _ _ _ _ z => z.elim, fun v d n H' rv _ _ z => by
    have z : d = .bl true := z
    subst z
    have rv : v = .bl true := rv
    subst rv
    exact q H'⟩
end
end L3
namespace L3
open PySem PySem.Spec PyProof.Rows L2
theorem wLoop_of {g : WG} {b : WS} {De : Ends3} (I : Nat → St3 → Prop) : ∀ (ds : List D) (k : Nat) (δ : St3), I k δ →
    (∀ (i : Nat) (d : D) (δ : St3), ds[i]? = some d → I (k + i) δ → ∀ N : St3 → Prop, (∀ δ, I (k + i + 1) δ → N δ) → g d δ fun δ1 => b ⟨N, De.rt, De.nx, N⟩ δ1) →
    (∀ δ, I (k + ds.length) δ → De.nx δ) → wLoop g b De ds δ
  | [], k, δ, h0, _, hn => hn δ h0
  | d :: ds, k, δ, h0, hs, hn => hs 0 d δ rfl h0 _ fun δ1 h1 => wLoop_of I ds (k + 1) δ1 h1 (fun i d' δ' hd hi N hN => hs (i + 1) d' δ' hd (by rw [show k + (i + 1) = k + 1 + i by omega]; exact hi) N fun δ2 h2 => hN δ2 (by rw [show k + 1 + i + 1 = k + (i + 1) + 1 by omega]; exact h2))
      fun δ2 h2 => hn δ2 (by rw [show k + (d :: ds).length = k + 1 + ds.length by simp only [List.length_cons]; omega]; exact h2)
/-- a loop, by what holds ahead of the item of each index -/
theorem wLoop_inv {g : WG} {b : WS} {De : Ends3} {ds : List D} {δ : St3} (I : Nat → St3 → Prop) (h0 : I 0 δ)
    (hs : ∀ (i : Nat) (d : D) (δ : St3), ds[i]? = some d → I i δ → ∀ N : St3 → Prop, (∀ δ, I (i + 1) δ → N δ) → g d δ fun δ1 => b ⟨N, De.rt, De.nx, N⟩ δ1) (hn : ∀ δ, I ds.length δ → De.nx δ) : wLoop g b De ds δ :=
  wLoop_of I ds 0 δ h0 (fun i d δ hd hi N hN => hs i d δ hd (by rwa [Nat.zero_add] at hi) N fun δ h => hN δ (by rwa [Nat.zero_add])) fun δ h => hn δ (by rwa [Nat.zero_add] at h)
theorem wLc_of {g : WG} {t : WT} {w : WE} {vs : List Nat} {Q : List D → St3 → Prop} (I : Nat → List D → St3 → Prop) : ∀ (ds : List D) (k : Nat) (acc : List D) (δ : St3), I k acc δ →
    (∀ (i : Nat) (d : D) (acc : List D) (δ : St3), ds[i]? = some d → I (k + i) acc δ → ∀ N : List D → St3 → Prop, (∀ acc δ, I (k + i + 1) acc δ → N acc δ) → g d δ fun δ1 => t δ1 fun b δ2 =>
      (b = true → w δ2 fun q δ3 => ¬ q.bor ∧ acc.length < 16777216 ∧ N (acc ++ [q.d]) ⟨wipe3 δ3.sl vs, δ3.n⟩) ∧ (b = false → N acc ⟨wipe3 δ2.sl vs, δ2.n⟩)) →
    (∀ acc δ, I (k + ds.length) acc δ → Q acc δ) → wLcGo g t w vs Q ds acc δ
  | [], k, acc, δ, h0, _, hn => hn acc δ h0
  | d :: ds, k, acc, δ, h0, hs, hn => hs 0 d acc δ rfl h0 _ fun acc1 δ1 h1 => wLc_of I ds (k + 1) acc1 δ1 h1 (fun i d' acc' δ' hd hi N hN => hs (i + 1) d' acc' δ' hd (by rw [show k + (i + 1) = k + 1 + i by omega]; exact hi) N fun acc2 δ2 h2 => hN acc2 δ2 (by rw [show k + 1 + i + 1 = k + (i + 1) + 1 by omega]; exact h2))
      fun acc2 δ2 h2 => hn acc2 δ2 (by rw [show k + (d :: ds).length = k + 1 + ds.length by simp only [List.length_cons]; omega]; exact h2)
theorem wLc_inv {g : WG} {t : WT} {w : WE} {vs : List Nat} {Q : List D → St3 → Prop} {ds acc : List D} {δ : St3} (I : Nat → List D → St3 → Prop) (h0 : I 0 acc δ)
    (hs : ∀ (i : Nat) (d : D) (acc : List D) (δ : St3), ds[i]? = some d → I i acc δ → ∀ N : List D → St3 → Prop, (∀ acc δ, I (i + 1) acc δ → N acc δ) → g d δ fun δ1 => t δ1 fun b δ2 =>
      (b = true → w δ2 fun q δ3 => ¬ q.bor ∧ acc.length < 16777216 ∧ N (acc ++ [q.d]) ⟨wipe3 δ3.sl vs, δ3.n⟩) ∧ (b = false → N acc ⟨wipe3 δ2.sl vs, δ2.n⟩))
    (hn : ∀ acc δ, I ds.length acc δ → Q acc δ) : wLcGo g t w vs Q ds acc δ :=
  wLc_of I ds 0 acc δ h0 (fun i d acc δ hd hi N hN => hs i d acc δ hd (by rwa [Nat.zero_add] at hi) N fun acc δ h => hN acc δ (by rwa [Nat.zero_add])) fun acc δ h => hn acc δ (by rwa [Nat.zero_add] at h)
@[simp] theorem isIns_lst (d : List D) : (D.lst d).isIns = false := rfl
@[simp] theorem isIns_tup (d : List D) : (D.tup d).isIns = false := rfl
@[simp] theorem isIns_dct (k : List Key) (d : List D) : (D.dct k d).isIns = false := rfl
def isB : D → (Bool → Prop) → Prop
  | .bl k, Q => Q k
  | _, _ => False
@[simp] theorem isB_0  (k : Bool) (Q : Bool → Prop) : isB (.bl k) Q = (Q k) := rfl
theorem isB_eq (d : D) (Q : Bool → Prop) : (∃ k, d = .bl k ∧ Q k) = isB d Q := by
  cases d <;> simp [isB]
@[simp] theorem wTest_eq (w : WE) (δ : St3) (Q : Bool → St3 → Prop) : wTest w δ Q = w δ fun r δ1 => isB r.d fun k => Q k δ1 := by
  unfold wTest
  simp only [isB_eq]
@[simp] theorem wChain_eq (f f' : F2) (a b c : WE) (δ : St3) (Q : RD → St3 → Prop) : wChain f f' a b c δ Q = a δ fun x δ1 => b δ1 fun y δ2 => (x.bor → δ2.sl = δ1.sl) ∧ f x.d y.d fun q => isB q.d fun k =>
    (k = true → c δ2 fun z δ3 => (y.bor → δ3.sl = δ2.sl) ∧ f' y.d z.d fun q' => Q q' δ3) ∧ (k = false → Q (.sh (.bl false)) δ2) := by
  unfold wChain
  simp only [isB_eq]
@[simp] theorem wAndV_eq (a b : WE) (δ : St3) (Q : RD → St3 → Prop) : wAndV a b δ Q = a δ fun x δ1 => isB x.d fun k => (k = true → b δ1 Q) ∧ (k = false → Q (.sh (.bl false)) δ1) := by
  unfold wAndV
  simp only [isB_eq]
@[simp] theorem wOrV_eq (a b : WE) (δ : St3) (Q : RD → St3 → Prop) : wOrV a b δ Q = a δ fun x δ1 => isB x.d fun k => (k = false → b δ1 Q) ∧ (k = true → Q (.sh (.bl true)) δ1) := by
  unfold wOrV
  simp only [isB_eq]
@[simp] theorem wNotV_eq (a : WE) (δ : St3) (Q : RD → St3 → Prop) : wNotV a δ Q = a δ fun x δ1 => isB x.d fun k => Q (.sh (.bl (!k))) δ1 := by
  unfold wNotV
  simp only [isB_eq]
def unc : List D → (D → List D → Prop) → Prop
  | d :: r, Q => Q d r
  | [], _ => False
@[simp] theorem unc_0 (d : D) (r : List D) (Q : D → List D → Prop) : unc (d :: r) Q = Q d r := rfl
@[simp] theorem gCons3_eq (g : WG) (t : WGs) (ds : List D) (δ : St3) (Q : St3 → Prop) : gCons3 g t ds δ Q = unc ds fun d r => g d δ fun δ1 => t r δ1 Q := by
  cases ds with
  | nil => simp [gCons3, unc]
  | cons d r =>
    refine propext ⟨fun ⟨d', r', h, q⟩ => ?_, fun q => ⟨d, r, rfl, q⟩⟩
    cases h
    exact q
theorem log_lt {n k : Nat} (hk : 0 < k) (h : n < 2 ^ k) : n.log2 < k := by
  by_cases z : n = 0
  · subst z; simpa using hk
  · exact (Nat.log2_lt z).mpr h
/-- below 2 ^ k, either sign -/
def Sz (k : Nat) (i : Int) : Prop := i.natAbs < 2 ^ k
theorem Sz.mono {k l : Nat} {i : Int} (h : Sz k i) (hl : k ≤ l) : Sz l i := Nat.lt_of_lt_of_le h (Nat.pow_le_pow_right (by omega) hl)
theorem Sz.mul {k l : Nat} {i j : Int} (h : Sz k i) (h' : Sz l j) : Sz (k + l) (i * j) := by
  unfold Sz at *
  rw [Int.natAbs_mul, Nat.pow_add]
  exact Nat.mul_lt_mul'' h h'
theorem Sz.add {k l : Nat} {i j : Int} (h : Sz k i) (h' : Sz l j) : Sz (max k l + 1) (i + j) := by
  have a : Sz (max k l) i := h.mono (Nat.le_max_left _ _)
  have b : Sz (max k l) j := h'.mono (Nat.le_max_right _ _)
  unfold Sz at *
  have := Int.natAbs_add_le i j
  rw [Nat.pow_succ]
  omega
theorem Sz.neg {k : Nat} {i : Int} (h : Sz k i) : Sz k (-i) := by unfold Sz at *; rwa [Int.natAbs_neg]
theorem Sz.sub {k l : Nat} {i j : Int} (h : Sz k i) (h' : Sz l j) : Sz (max k l + 1) (i - j) := h.add h'.neg
theorem Sz.emod {k : Nat} {i j : Int} (h : Sz k j) (h0 : 0 < j) : Sz k (i.fmod j) := by
  unfold Sz at *
  have a := Int.fmod_nonneg_of_pos i h0
  have b := Int.fmod_lt_of_pos i h0
  omega
theorem Sz.of {k : Nat} {i : Int} (a : -(2 ^ k : Int) < i) (b : i < 2 ^ k) : Sz k i := by
  unfold Sz
  have : ((2 ^ k : Nat) : Int) = (2 : Int) ^ k := by simp
  omega
theorem Sz.pos {k : Nat} {i : Int} (a : 0 ≤ i) (b : i < 2 ^ k) : Sz k i := by
  refine Sz.of ?_ b
  have : (0 : Int) < 2 ^ k := Int.pow_pos (by omega)
  omega
theorem Sz.lt {k : Nat} {i : Int} (h : Sz k i) : i < 2 ^ k := by
  unfold Sz at h
  have : ((2 ^ k : Nat) : Int) = (2 : Int) ^ k := by simp
  omega
theorem Sz.log {k l : Nat} {i : Int} (h : Sz k i) (hl : k ≤ l) (h0 : 0 < k) : i.natAbs.log2 < l := Nat.lt_of_lt_of_le (log_lt h0 h) hl
theorem Sz.cmul {k l : Nat} {i j : Int} (h : Sz k i) (h' : Sz l j) (hs : k + l < 1000000) : CMulW i j := by
  have a : i.natAbs.log2 < k + 1 := log_lt (by omega) (h.mono (by omega : k ≤ k + 1))
  have b : j.natAbs.log2 < l + 1 := log_lt (by omega) (h'.mono (by omega : l ≤ l + 1))
  unfold CMulW
  omega
theorem Sz.cdiv {k : Nat} {i j : Int} (h : Sz k j) (h0 : j ≠ 0) (hk : k ≤ 9000) : CDivA i j := ⟨h0, by
  have : j.natAbs.log2 < k + 1 := log_lt (by omega) (h.mono (by omega : k ≤ k + 1))
  rcases Nat.eq_zero_or_pos k with z | z
  · subst z
    unfold Sz at h
    omega
  · exact Nat.lt_of_lt_of_le (log_lt z h) hk⟩
instance {k : Nat} {i : Int} : Decidable (Sz k i) := inferInstanceAs (Decidable (i.natAbs < 2 ^ k))
theorem Sz.n {k : Nat} {i : Int} (h : decide (i.natAbs < 2 ^ k) = true) : Sz k i := of_decide_eq_true h
theorem fmod_pos {i j : Int} (h : 0 ≤ j) : i.fmod j = i % j := Int.fmod_eq_emod_of_nonneg i h
theorem fdiv_pos {i j : Int} (h : 0 ≤ j) : i.fdiv j = i / j := Int.fdiv_eq_ediv_of_nonneg i h
def wMixA (a k e : Int) : WS :=
  wSeq (wAsg 4 (wOp fMod (wCB fInt (wCons (wOp fMulA (wOp fAdd (wOp fAdd (wOp fMod (wCB fInt (wCons (wVar 3) wNil)) (wC (.int 2147483629))) (wOp fMulA (wOp fMulA (wC (.int a)) (wVar 2)) (wVar 2))) (wC (.int k))) (wC (.int 40692))) wNil)) (wC (.int 2147483647))))
    (wSeq (wAsg 4 (wOp fMod (wCB fInt (wCons (wOp fAdd (wOp fAdd (wOp fMulA (wVar 4) (wVar 4)) (wOp fMulA (wC (.int 69621)) (wVar 2))) (wC (.int e))) wNil)) (wC (.int 2147483587))))
    (wRet (wOp fMod (wCB fInt (wCons (wOp fFdiv (wOp fMod (wCB fInt (wCons (wOp fMulA (wVar 4) (wC (.int 39373))) wNil)) (wC (.int 2147483563))) (wC (.int 64))) wNil)) (wVar 1))))
theorem mixA {a k e : Int} (ha : Sz 20 a) (hk : Sz 20 k) (m turn cell : Int) (n : Nat) (Qd : D → Nat → Prop) (m1 : 1 ≤ m) (m2 : m.natAbs.log2 < 9000) (t0 : 0 ≤ turn) (t1 : turn ≤ 2 ^ 40) (q : ∀ r : Int, 0 ≤ r → r < m → Qd (.int r) n) :
    wMixA a k e ⟨fun δ => Qd .non δ.n, Qd, fun _ => False, fun _ => False⟩ ⟨some (.sh .deck) :: some (.sh (.int m)) :: some (.sh (.int turn)) :: some (.sh (.int cell)) :: [none], n⟩ := by
  have ht : Sz 41 turn := .pos t0 (by omega)
  have h1 : Sz 31 (cell.fmod 2147483629) := Sz.emod (.n (by decide)) (by decide)
  have h2 : CMulW a turn := ha.cmul ht (by omega)
  have h3 : CMulW (a * turn) turn := (ha.mul ht).cmul ht (by omega)
  have h4 := (h1.add ((ha.mul ht).mul ht)).add hk
  have h5 : CMulW (cell.fmod 2147483629 + a * turn * turn + k) 40692 := h4.cmul (l := 31) (.n (by decide)) (by decide)
  have h6 : ∀ i : Int, Sz 31 (i.fmod 2147483647) := fun i => Sz.emod (.n (by decide)) (by decide)
  have h7 : ∀ i : Int, Sz 31 (i.fmod 2147483587) := fun i => Sz.emod (.n (by decide)) (by decide)
  have h8 : CMulW 69621 turn := Sz.cmul (k := 31) (.n (by decide)) ht (by decide)
  simp [wMixA, wSeq, wAsg, wOp, wCB, wCons, wNil, wVar, wC, wRet, svRD, RD.d, RD.bor, fMod, fI, fAdd, fInt, fFdiv, h2, h3, h5]
  refine ⟨(h6 _).cmul (h6 _) (by decide), h8, (h7 _).cmul (l := 31) (.n (by decide)) (by decide), ⟨by decide, by decide⟩, by omega, ?_⟩
  exact q _ (Int.fmod_nonneg_of_pos _ (by omega)) (Int.fmod_lt_of_pos _ (by omega))
theorem draw_le {n : Nat} {m : Int} {Q : D → Nat → Prop} (h1 : 1 ≤ m) (hs : Sz 9000 m) (hn : n < mostDraws) (q : ∀ r : Int, 0 ≤ r → r < m → Q (.int r) (n + 1)) : CdrawA [.deck, .int m] n Q := ⟨m, rfl, h1, hs.log (Nat.le_refl _) (by decide), hn, q⟩
/-- some of a list -/
def CpickA : Con := fun ds n Q => ∃ xs : List D, (ds = [.deck, .lst xs] ∨ ds = [.deck, .tup xs]) ∧ xs ≠ [] ∧ xs.length ≤ 1000 ∧ n < mostDraws ∧ ∀ x ∈ xs, Q x (n + 1)
theorem pick_ints {n : Nat} {xs : List D} {Q : D → Nat → Prop} (P : Int → Prop) (h0 : xs ≠ []) (hl : xs.length ≤ 1000) (hn : n < mostDraws) (hP : ∀ x ∈ xs, ∃ i, x = .int i ∧ P i) (q : ∀ i : Int, P i → Q (.int i) (n + 1)) : CpickA [.deck, .lst xs] n Q :=
  ⟨xs, .inl rfl, h0, hl, hn, fun x hx => by obtain ⟨i, rfl, hi⟩ := hP x hx; exact q i hi⟩
theorem atI_some {α : Type} {xs : List α} {i : Int} (h0 : 0 ≤ i) (h1 : i < xs.length) : ∃ x, x ∈ xs ∧ L2.atI xs i = some x := by
  obtain ⟨j, rfl⟩ := Int.eq_ofNat_of_zero_le h0
  have hi : j < xs.length := by omega
  exact ⟨xs[j], List.getElem_mem _, L2.atI_nat (List.getElem?_eq_getElem hi)⟩
theorem sz_len {n k : Nat} (h : n < 2 ^ k) : Sz k (n : Int) := by unfold Sz; simpa using h
theorem pow_sz {b : Int} {k : Nat} (h : Sz k b) : ∀ e : Nat, Sz (k * e + 1) (b ^ e)
  | 0 => by unfold Sz; simp
  | e + 1 => by
    rw [Int.pow_succ]
    exact ((pow_sz h e).mul h).mono (by rw [Nat.mul_succ]; omega)
end L3
namespace L3
open PySem PySem.Spec PyProof.Rows L2
structure Sh (d : D) (p : PyData) (h l : Nat) : Prop where
  py : d.py = some p
  sw : p.showable = true
  nd : p.hasDict = false
  dp : p.depth ≤ h
  ln : p.shown.length ≤ l
structure ShAll (ds : List D) (ps : List PyData) (h l : Nat) : Prop where
  py : D.pys ds = some ps
  sw : PyData.showableAll ps = true
  nd : PyData.hasDictAll ps = false
  dp : PyData.depthAll ps ≤ h
  ln : ((PyData.shownAll ps).map (·.length)).sum + 2 * (PyData.shownAll ps).length ≤ l
theorem Sh.int {i : Int} (h : Sz 1900 i) : Sh (.int i) (.int i) 0 601 where
  py := py_int i
  sw := decide_eq_true (h.log (l := 1920) (by omega) (by omega))
  nd := rfl
  dp := Nat.le_refl _
  ln := by
    have h2 : i.natAbs < 10 ^ 600 := Nat.lt_of_lt_of_le h (by decide +kernel)
    have e := int_text_length_le10 (k := 600) (by decide) h2
    show (Str.ofString (toString i)).length ≤ 601
    rw [PySem.ofString_length]; exact e
theorem Sh.bl {b : Bool} : Sh (.bl b) (.bool b) 0 5 where
  py := py_bl b
  sw := rfl
  nd := rfl
  dp := Nat.le_refl _
  ln := by cases b <;> decide
theorem Sh.non : Sh .non .none 0 4 where
  py := py_non
  sw := rfl
  nd := rfl
  dp := Nat.le_refl _
  ln := by decide
theorem ShAll.nil {h : Nat} : ShAll [] [] h 0 where
  py := by simp [D.pys]
  sw := rfl
  nd := rfl
  dp := Nat.zero_le _
  ln := Nat.le_refl _
theorem ShAll.cons {d : D} {ds : List D} {p : PyData} {ps : List PyData} {h h' l m : Nat} (a : Sh d p h' l) (b : ShAll ds ps h m) (hh : h' ≤ h) : ShAll (d :: ds) (p :: ps) h (l + 2 + m) where
  py := by simp [D.pys, a.py, b.py]
  sw := by simp [PyData.showableAll, a.sw, b.sw]
  nd := by simp [PyData.hasDictAll, a.nd, b.nd]
  dp := by
    have := a.dp
    have := b.dp
    simp only [PyData.depthAll]
    omega
  ln := by
    have := a.ln
    have := b.ln
    simp only [PyData.shownAll, List.map_cons, List.sum_cons, List.length_cons]
    omega
theorem Sh.lst {ds : List D} {ps : List PyData} {h l : Nat} (a : ShAll ds ps h l) : Sh (.lst ds) (.list ps) (h + 1) (l + 3) where
  py := by simp [D.py, a.py]
  sw := a.sw
  nd := a.nd
  dp := Nat.succ_le_succ a.dp
  ln := by
    have := listText_len_le (PyData.shownAll ps)
    have := a.ln
    simp only [PyData.shown]
    omega
theorem Sh.tup {ds : List D} {ps : List PyData} {h l : Nat} (a : ShAll ds ps h l) : Sh (.tup ds) (.tuple ps) (h + 1) (l + 3) where
  py := by simp [D.py, a.py]
  sw := a.sw
  nd := a.nd
  dp := Nat.succ_le_succ a.dp
  ln := by
    have := tupleText_len_le (PyData.shownAll ps)
    have := a.ln
    simp only [PyData.shown]
    omega
theorem Sh.repr {d : D} {p : PyData} {h l : Nat} {Q : RD → Prop} (a : Sh d p h l) (hh : h ≤ 30) (hl : l ≤ 16777216) (q : Q (.sh (.str p.shown))) : fRepr [d] Q := by
  refine ⟨p, a.py, a.sw, a.nd, Nat.le_trans a.dp hh, Nat.le_trans a.ln hl, q⟩
theorem ShAll.ints : ∀ {ns : List Int}, (∀ n ∈ ns, Sz 1900 n) → ShAll (ns.map D.int) (ns.map PyData.int) 0 (603 * ns.length)
  | [], _ => .nil
  | n :: ns, h => by
    have := ShAll.cons (Sh.int (h n List.mem_cons_self)) (ShAll.ints (ns := ns) fun m hm => h m (List.mem_cons_of_mem _ hm)) (Nat.le_refl _)
    refine ⟨this.py, this.sw, this.nd, this.dp, Nat.le_trans this.ln ?_⟩
    simp only [List.length_cons]
    omega
theorem Sh.mono {d : D} {p : PyData} {h h' l l' : Nat} (a : Sh d p h l) (hh : h ≤ h') (hl : l ≤ l') : Sh d p h' l' := ⟨a.py, a.sw, a.nd, Nat.le_trans a.dp hh, Nat.le_trans a.ln hl⟩
theorem ShAll.mono {d : List D} {p : List PyData} {h h' l l' : Nat} (a : ShAll d p h l) (hh : h ≤ h') (hl : l ≤ l') : ShAll d p h' l' := ⟨a.py, a.sw, a.nd, Nat.le_trans a.dp hh, Nat.le_trans a.ln hl⟩
end L3
namespace L3
open PySem PySem.Spec PyProof.Rows L2
@[simp] theorem flat_int (i : Int) : D.flat (.int i) = true := rfl
@[simp] theorem flat_str (i : Str) : D.flat (.str i) = true := rfl
@[simp] theorem flat_bl (i : Bool) : D.flat (.bl i) = true := rfl
@[simp] theorem flat_non : D.flat .non = true := rfl
@[simp] theorem inD_nil (d : D) : inD d [] = false := rfl
@[simp] theorem inD_int (i j : Int) (ds : List D) : inD (.int i) (.int j :: ds) = (decide (i = j) || inD (.int i) ds) := by
  have e : eqV (V.int j) (V.int i) = decide (i = j) := by
    show (j == i) = decide (i = j)
    rw [Bool.eq_iff_iff, beq_iff_eq, decide_eq_true_eq]
    exact ⟨Eq.symm, Eq.symm⟩
  unfold inD inV
  simp [D.v, e]
@[simp] theorem inD_str (i j : Str) (ds : List D) : inD (.str i) (.str j :: ds) = (decide (i = j) || inD (.str i) ds) := by
  have e : eqV (V.str j) (V.str i) = decide (i = j) := by
    show (j == i) = decide (i = j)
    rw [Bool.eq_iff_iff, beq_iff_eq, decide_eq_true_eq]
    exact ⟨Eq.symm, Eq.symm⟩
  unfold inD inV
  simp [D.v, e]
end L3
namespace L3
open PySem PySem.Spec PyProof.Rows L2
/-- the arguments of a call as they are written -/
structure ArgsOk (X : Cx) (es : List Expr) (kws : List Keyword) (pos : Pos) (ks : List Str) : Prop where
  st : es = [] ∨ ∃ e rest, es = e :: rest ∧ starEach (e :: rest) X.env = (false, eval e X.env) :: starEach rest X.env
  pl : ((backTo pos (starEach es X.env)).any (·.1) || (backToKw pos (keywordEach kws X.env)).any (·.1.isNone)) = false
  al : (backToKw pos (keywordEach kws X.env)).all (·.1.isSome) = true
  nm : (backToKw pos (keywordEach kws X.env)).filterMap (·.1) = ks
section
variable {X : Cx} {CX : CXT} {k n m : Nat} {f C : Addr} {fd : FuncData} {ps ks : List Str} {sp : Sp} {dvs : List V} {ds : List Value} {E : XK} {x mn : Str} {p pos apos : Pos} {e o : Expr} {es : List Expr} {kws : List Keyword} {ta : TE} {t tk : TA} {perm : List Nat}
theorem args_run {fv : Value} {pins : List (Addr × Obj)} {σ : L2.St} {H : Hp} {s : Shared} {B : List V → List V → Hp → Prop} {R : Args → Shared → Prop} (ok : ArgsOk X es kws pos ks) (hn : es = [] → t = tNil) (ha : PA X es t) (hkw : PK X kws tk) (I : Inv X pins σ H s)
    (h : t σ H fun vs H1 => tk σ H1 fun zs H2 => B vs zs H2)
    (go : ∀ us ws vs zs s2 H2, Inv X pins σ H2 s2 → Vals vs us → Vals zs ws → B vs zs H2 → R ⟨us, ks.zip ws⟩ s2) :
    wpAny (model X.prog X.w) X.A (evalArgs fv true (backTo pos (starEach es X.env)) (backToKw pos (keywordEach kws X.env))) R X.xe s := by
  rcases ok.st with rfl | ⟨e, rest, rfl, he⟩
  · rw [hn rfl] at h
    refine evalArgs_kw2_nil ok.al ?_
    rw [ok.nm]
    exact thn (hkw.run pos pins s σ H _ I h) fun ws s2 ⟨zs, H2, I2, rz, b⟩ => go [] ws [] zs s2 H2 I2 .nil rz b
  · refine evalArgs_kw2 ok.al ?_ he
    rw [ok.nm]
    exact thn (ha.run pos pins s σ H _ I h) fun us s1 ⟨vs, H1, I1, r, q⟩ => thn (hkw.run pos pins s1 σ H1 _ I1 q) fun ws s2 ⟨zs, H2, I2, rz, b⟩ => go us ws vs zs s2 H2 I2 r rz b
/-- the callee's node -/
theorem callw {fv : Value} {first : List Value} {pins : List (Addr × Obj)} {σ : L2.St} {H : Hp} {s : Shared} {B : List V → List V → Hp → Prop} {Q : Value → Shared → Prop} (ok : ArgsOk X es kws pos ks) (hn : es = [] → t = tNil) (hk : PySem.W.keepIn X.K fv = true) (ha : PA X es t) (hkw : PK X kws tk) (I : Inv X pins σ H s)
    (h : t σ H fun vs H1 => tk σ H1 fun zs H2 => B vs zs H2)
    (go : ∀ us ws vs zs s2 H2, Inv X pins σ H2 s2 → Vals vs us → Vals zs ws → B vs zs H2 → wpAny (model X.prog X.w) X.A (call fv (first ++ us) (ks.zip ws)) Q X.xe s2) :
    wpAny (model X.prog X.w) X.A (callWith pos fv first (backTo pos (starEach es X.env)) (backToKw pos (keywordEach kws X.env))) Q X.xe s :=
  PySem.W.callWith_of ok.pl (PySem.W.keeps_K hk) (args_run ok hn ha hkw I h fun us ws vs zs s2 H2 I2 r rz b => ⟨I2.kIn, go us ws vs zs s2 H2 I2 r rz b⟩)
/-- the node of a call whose callee is an instance, by what stands behind the arguments -/
theorem inst_node {M : Model} {A : Around} {Er : Value → Shared → Prop} {s : Shared} {a : Addr} {Q : Value → Shared → Prop} {args : List (Bool × Sem Value)} {kw : List (Option Str × Sem Value)} (hp : (args.any (·.1) || kw.any (·.1.isNone)) = false)
    (h : wpAny M A (evalArgs (.ref a) true args kw) (fun z s1 => (∃ C ox od, PySem.W.InstAt s1.heap a ox C od ∧ ox.data = .plain) ∧ wpAny M A (call (.ref a) z.pos z.kw) Q Er s1) Er s) : wpAny M A (callWith pos (.ref a) [] args kw) Q Er s := by
  unfold callWith
  refine wpAny_bind (wpAny_holding (wpAny_mono h (fun z s1 hz => ?_) fun _ _ y => y))
  refine wpAny_bind (wpAny_standAt ?_)
  obtain ⟨⟨C, ox, od, J, hd⟩, hz⟩ := hz
  simp only [hp]
  refine wpAny_bind ((PySem.W.kco_keeper (M := M) J hd).here ?_)
  refine wpAny_bind (wpAny_mono (wpAny_operateT hz) (fun r s2 hr => ?_) fun _ _ y => y)
  exact wpAny_bind (wpAny_holding (wpAny_point (wpAny_pure hr)))
theorem ins_at {pins : List (Addr × Obj)} {σ : L2.St} {H : Hp} {s : Shared} {a dx : Addr} {fs : List (Str × V)} (I : Inv X pins σ H s) (h : H a = some (.ins C dx fs)) : ∃ ox od, PySem.W.InstAt s.heap a ox C od ∧ ox.data = .plain := by
  obtain ⟨mA, O, _⟩ := ins_get I.hok h
  obtain ⟨od, J, _⟩ := O.look
  exact ⟨_, _, J, rfl⟩
theorem calli {a : Addr} {pins : List (Addr × Obj)} {σ : L2.St} {H : Hp} {s : Shared} {B : List V → List V → Hp → Prop} {Q : Value → Shared → Prop} (ok : ArgsOk X es kws pos ks) (hn : es = [] → t = tNil) (ha : PA X es t) (hkw : PK X kws tk) (I : Inv X pins σ H s)
    (h : t σ H fun vs H1 => tk σ H1 fun zs H2 => B vs zs H2)
    (go : ∀ us ws vs zs s2 H2, Inv X pins σ H2 s2 → Vals vs us → Vals zs ws → B vs zs H2 → (∃ C dx fs, H2 a = some (.ins C dx fs)) ∧ wpAny (model X.prog X.w) X.A (call (.ref a) us (ks.zip ws)) Q X.xe s2) :
    wpAny (model X.prog X.w) X.A (callWith pos (.ref a) [] (backTo pos (starEach es X.env)) (backToKw pos (keywordEach kws X.env))) Q X.xe s := by
  refine inst_node ok.pl (args_run ok hn ha hkw I h fun us ws vs zs s2 H2 I2 r rz b => ?_)
  obtain ⟨⟨C, dx, fs, hi⟩, g⟩ := go us ws vs zs s2 H2 I2 r rz b
  obtain ⟨ox, od, J⟩ := ins_at I2 hi
  exact ⟨⟨C, ox, od, J⟩, g⟩
/-- how a method binds: itself, n values, the keywords -/
abbrev KBm (K : PySem.W.Frag) (fd : FuncData) (ps : List Str) (n : Nat) (ks : List Str) (perm : List Nat) (ds : List Value) : Prop := KB K fd ps (n + 1) ks (0 :: perm.map (· + 1)) ds
theorem pick_shift {α : Type} {x : α} {l : List α} {perm : List Nat} : pick (0 :: perm.map (· + 1)) (x :: l) = x :: pick perm l := by
  unfold pick
  rw [List.filterMap_cons_some (f := fun i => (x :: l)[i]?) (a := 0) (b := x) rfl, List.filterMap_map]
  rfl
theorem FnG.callM {pins : List (Addr × Obj)} {σ : L2.St} {H : Hp} {s : Shared} {Q : VK} {a : Value} {va : V} {us ws : List Value} {vs zs : List V} (F : FnG X.prog X.w X.K X.mg X.base CX k f fd ps sp) (hr : Room k X.A) (hg : X.A.guards = some []) (hx : Passes CX X E)
    (I : Inv X pins σ H s) (hb : KBm X.K fd ps n ks perm ds) (hd : Vals dvs ds) (ra : RelV va a) (r : Vals vs us) (rz : Vals zs ws) (l1 : vs.length = n) (l2 : zs.length = ks.length) (h : sp (va :: pick perm (vs ++ zs ++ dvs)) H Q E) :
    codeAny (model X.prog X.w) X.A (.call (.ref f) ⟨a :: us, ks.zip ws⟩) (fun q s' => match q with | .ok (.ret u) => EP X pins σ Q u s' | .ok _ => False | .error e => X.xe e s') s := by
  have rr : Vals (va :: pick perm (vs ++ zs ++ dvs)) (pick (0 :: perm.map (· + 1)) (a :: us ++ ws ++ ds)) := by
    show Vals _ (pick (0 :: perm.map (· + 1)) (a :: (us ++ ws ++ ds)))
    rw [pick_shift]
    exact .cons ra (pick_vals ((r.append rz).append hd))
  exact F.call hr hg hx I (fun _ => hb s (a :: us) ws I.kIn (by rw [List.length_cons, ← r.length, l1]) (by rw [← rz.length, l2])) rr h
def tMakeP (C : Addr) (sp : Sp) (n m : Nat) (perm : List Nat) (dvs : List V) (E : XK) (t tk : TA) : TE := fun σ H Q => t σ H fun vs H1 => tk σ H1 fun zs H2 => vs.length = n ∧ zs.length = m ∧
  ∀ x dx, H2 x = none → H2 dx = none → dx ≠ x → sp (.ref x :: pick perm (vs ++ zs ++ dvs)) (upd (upd H2 dx (.own x)) x (.ins C dx [])) (fun v H3 => v = .non ∧ Q (.ref x) H3) E
theorem make_run {pins : List (Addr × Obj)} {σ : L2.St} {H : Hp} {s : Shared} {Q : VK} {us ws : List Value} {vs zs : List V} (M : Mk X.K C f) (F : FnG X.prog X.w X.K X.mg X.base CX k f fd ps sp) (hr : Room (k + 1) X.A) (hg : X.A.guards = some []) (hb : KBm X.K fd ps n ks perm ds) (hd : Vals dvs ds)
    (hx : Passes CX X E) (I : Inv X pins σ H s) (r : Vals vs us) (rz : Vals zs ws) (l1 : vs.length = n) (l2 : zs.length = ks.length)
    (h : ∀ x dx, H x = none → H dx = none → dx ≠ x → sp (.ref x :: pick perm (vs ++ zs ++ dvs)) (upd (upd H dx (.own x)) x (.ins C dx [])) (fun v H3 => v = .non ∧ Q (.ref x) H3) E) :
    wpAny (model X.prog X.w) X.A (call (.ref C) us (ks.zip ws)) (EP X pins σ Q) X.xe s := by
  have I2 := Inv.made (C := C) I
  have q := h (s.heap.objs.size + 1) s.heap.objs.size (I.hok.fresh (Nat.le_succ _)) (I.hok.fresh (Nat.le_refl _)) (Nat.ne_of_lt (Nat.lt_succ_self _))
  have rr : Vals (V.ref (s.heap.objs.size + 1) :: pick perm (vs ++ zs ++ dvs)) (pick (0 :: perm.map (· + 1)) (Value.ref (s.heap.objs.size + 1) :: us ++ ws ++ ds)) := by
    show Vals _ (pick (0 :: perm.map (· + 1)) (Value.ref (s.heap.objs.size + 1) :: (us ++ ws ++ ds)))
    rw [pick_shift]
    exact .cons rfl (pick_vals ((r.append rz).append hd))
  have bt := hb _ (Value.ref (s.heap.objs.size + 1) :: us) ws I2.kIn (by rw [List.length_cons, ← r.length, l1]) (by rw [← rz.length, l2])
  refine wpAny_call (make_map (f := f) I.kIn M.makes M.init (beq_iff_eq.mp M.fn) (codeAny_mono (F.go _ X.stack _ _ ⟨_, ks.zip ws⟩ _ _ _ E ⟨hr.make C us (ks.zip ws), hg⟩ (I2.env0.make C us (ks.zip ws)) bt rr q) fun z s' hz => ?_))
  cases z with
  | error e => exact hx pins σ _ _ e s' I2 hz
  | ok fl => cases fl with
    | ret u =>
      obtain ⟨v, H', I3, rv, ev, q3⟩ := I2.after hz
      subst ev
      exact ⟨rv, .ref (s.heap.objs.size + 1), H', I3, rfl, q3⟩
    | next => exact hz.elim
    | brk => exact hz.elim
    | cont => exact hz.elim
theorem pg_make (M : Mk X.K C f) (F : FnG X.prog X.w X.K X.mg X.base CX k f fd ps sp) (hr : Room (k + 1) X.A) (hg : X.A.guards = some []) (gl : Gl X x) (hm : X.mg x = some (.ref C)) (hb : KBm X.K fd ps n ks perm ds) (hd : Vals dvs ds) (hx : Passes CX X E)
    (ok : ArgsOk X es kws pos ks) (hn : es = [] → t = tNil) (ha : PA X es t) (hkw : PK X kws tk) (hdb : (x == ("__debug__" : Str)) = false) : PE X (.Call (.Name x p) es kws pos) (tMakeP C sp n ks.length perm dvs E t tk) :=
  ⟨fun pins s σ H Q I h => wpAny_Call_Name_kw (ld_glob I gl hm (callw ok hn M.kp ha hkw I h fun us ws vs zs s2 H2 I2 r rz ⟨l1, l2, q⟩ => make_run M F hr hg hb hd hx I2 r rz l1 l2 q) hdb)⟩
def tMethP (C : Addr) (mn : Str) (sp : Sp) (n m : Nat) (perm : List Nat) (dvs : List V) (E : XK) (ta : TE) (t tk : TA) : TE := fun σ H Q => ta σ H fun x H1 => ∃ a dx fs, x = .ref a ∧ H1 a = some (.ins C dx fs) ∧ fs.lookup mn = none ∧
  t σ H1 fun vs H2 => tk σ H2 fun zs H3 => vs.length = n ∧ zs.length = m ∧ sp (x :: pick perm (vs ++ zs ++ dvs)) H3 Q E
theorem pg_meth {pl : Sem Bool} (he : PE X o ta) (c : Cls X.K C) (hm : Meth X.K C mn f) (F : FnG X.prog X.w X.K X.mg X.base CX k f fd ps sp) (hr : Room k X.A) (hg : X.A.guards = some []) (hb : KBm X.K fd ps n ks perm ds) (hd : Vals dvs ds) (hx : Passes CX X E)
    (ok : ArgsOk X es kws pos ks) (hn : es = [] → t = tNil) (ha : PA X es t) (hkw : PK X kws tk)
    (ht : eval (.Call (.Attribute o mn apos) es kws pos) X.env = (do
      let ov ← eval o X.env
      standAt apos.atName
      let (f, first) ← holding [ov] (getMethod ov mn pl)
      callWith pos f first (backTo pos (starEach es X.env)) (backToKw pos (keywordEach kws X.env)))) :
    PE X (.Call (.Attribute o mn apos) es kws pos) (tMethP C mn sp n ks.length perm dvs E ta t tk) := by
  refine ⟨fun pins s σ H Q I h => PySem.W.methodCall_KW (pl := pl) (thn (he.run pins s σ H _ I h) fun u s1 ⟨x, H1, I1, rx, a, dx, fs, ex, ea, l, q⟩ => ?_) ht⟩
  subst ex
  obtain rfl : u = Value.ref a := rx
  refine getmeth_ok I1 ea c hm l (callw (first := [.ref a]) ok hn hm.kp ha hkw I1 q fun us ws vs zs s2 H2 I2 r rz ⟨l1, l2, q2⟩ => ?_)
  exact wp_of_code (α := Unit) (FnG.callM (va := .ref a) F hr hg hx I2 hb hd rfl r rz l1 l2 q2)
structure CallI (K : PySem.W.Frag) (C g : Addr) : Prop where
  at_ : PySem.W.findIn K (.ref C) "__call__" = some (some (.ref g))
  fn : PySem.W.isFn K (.ref g) = true
  fi : PySem.W.fnIn K g = true
theorem run_inst {pins : List (Addr × Obj)} {σ : L2.St} {H : Hp} {s : Shared} {Q : VK} {a dx : Addr} {fs : List (Str × V)} {us ws : List Value} {vs zs : List V} (c : CallI X.K C f) (F : FnG X.prog X.w X.K X.mg X.base CX k f fd ps sp) (hr : Room k X.A) (hg : X.A.guards = some []) (hx : Passes CX X E)
    (I : Inv X pins σ H s) (hi : H a = some (.ins C dx fs)) (hb : KBm X.K fd ps n ks perm ds) (hd : Vals dvs ds) (r : Vals vs us) (rz : Vals zs ws) (l1 : vs.length = n) (l2 : zs.length = ks.length) (h : sp (.ref a :: pick perm (vs ++ zs ++ dvs)) H Q E) :
    wpAny (model X.prog X.w) X.A (call (.ref a) us (ks.zip ws)) (EP X pins σ Q) X.xe s := by
  obtain ⟨ox, od, J, d⟩ := ins_at I hi
  exact wp_of_code (α := Unit) (PySem.W.kco_code I.kIn J d c.at_ c.fn c.fi (FnG.callM (va := .ref a) F hr hg hx I hb hd rfl r rz l1 l2 h))
def tInst (C : Addr) (sp : Sp) (n m : Nat) (perm : List Nat) (dvs : List V) (E : XK) (ta : TE) (t tk : TA) : TE := fun σ H Q => ta σ H fun x H1 => ∃ a, x = .ref a ∧
  t σ H1 fun vs H2 => tk σ H2 fun zs H3 => vs.length = n ∧ zs.length = m ∧ (∃ dx fs, H3 a = some (.ins C dx fs)) ∧ sp (x :: pick perm (vs ++ zs ++ dvs)) H3 Q E
theorem pg_inst {fe : Expr} (he : PE X fe ta) (c : CallI X.K C f) (F : FnG X.prog X.w X.K X.mg X.base CX k f fd ps sp) (hr : Room k X.A) (hg : X.A.guards = some []) (hb : KBm X.K fd ps n ks perm ds) (hd : Vals dvs ds) (hx : Passes CX X E)
    (ok : ArgsOk X es kws pos ks) (hn : es = [] → t = tNil) (ha : PA X es t) (hkw : PK X kws tk)
    (ht : eval (.Call fe es kws pos) X.env = (do callWith pos (← eval fe X.env) [] (backTo pos (starEach es X.env)) (backToKw pos (keywordEach kws X.env)))) :
    PE X (.Call fe es kws pos) (tInst C sp n ks.length perm dvs E ta t tk) := by
  refine ⟨fun pins s σ H Q I h => ?_⟩
  rw [ht]
  refine wpAny_bind (thn (he.run pins s σ H _ I h) fun u s1 ⟨x, H1, I1, rx, a, ex, q⟩ => ?_)
  subst ex
  obtain rfl : u = Value.ref a := rx
  refine calli ok hn ha hkw I1 q fun us ws vs zs s2 H2 I2 r rz ⟨l1, l2, ⟨dx, fs, hi⟩, q2⟩ => ⟨⟨C, dx, fs, hi⟩, run_inst c F hr hg hx I2 hi hb hd r rz l1 l2 q2⟩
/-- o.f(..) where f is a field that holds an instance -/
def tFInst (K : PySem.W.Frag) (fn : Str) (C : Addr) (sp : Sp) (n m : Nat) (perm : List Nat) (dvs : List V) (E : XK) (ta : TE) (t tk : TA) : TE := fun σ H Q => ta σ H fun x H1 => ∃ a D dx fs b, x = .ref a ∧ H1 a = some (.ins D dx fs) ∧ Cls K D ∧ NoAttr K D fn ∧ fs.lookup fn = some (.ref b) ∧
  t σ H1 fun vs H2 => tk σ H2 fun zs H3 => vs.length = n ∧ zs.length = m ∧ (∃ dx fs, H3 b = some (.ins C dx fs)) ∧ sp (.ref b :: pick perm (vs ++ zs ++ dvs)) H3 Q E
end
end L3
namespace L3
open PySem PySem.Spec PyProof.Rows L2
theorem RepAll.cons {K : PySem.W.Frag} {G : Gx} {H : Hp} {x : V} {xs : List V} {d : D} {ds : List D} (h : Rep K G H x d) (t : RepAll K G H xs ds) : RepAll K G H (x :: xs) (d :: ds) := ⟨x, xs, rfl, h, t⟩
theorem lookup_zip {f : Str} : ∀ {fl : List Str} {i : Nat} (xs : List V), fl.findIdx? (· == f) = some i → (fl.zip xs).lookup f = xs[i]?
  | [], _, _, h => by simp at h
  | g :: fl, i, [], h => by simp
  | g :: fl, i, x :: xs, h => by
    rw [List.findIdx?_cons] at h
    by_cases e : (g == f) = true
    · rw [if_pos e] at h
      cases h
      have e : g = f := beq_iff_eq.mp e
      subst e
      simp [List.zip_cons_cons]
    · rw [if_neg e] at h
      obtain ⟨j, h1, rfl⟩ := Option.map_eq_some_iff.mp h
      have e' : (f == g) = false := by
        rw [Bool.eq_false_iff]
        exact fun z => e (beq_iff_eq.mpr (beq_iff_eq.mp z).symm)
      rw [List.zip_cons_cons, List.lookup_cons, e', lookup_zip xs h1]
      simp
theorem putF_zip {f : Str} {y : V} : ∀ {fl : List Str} {i : Nat} {xs : List V}, fl.findIdx? (· == f) = some i → i ≤ xs.length → putF f y (fl.zip xs) = fl.zip (xs.take i ++ y :: xs.drop (i + 1))
  | [], _, _, h, _ => by simp at h
  | g :: fl, i, [], h, hl => by
    have : i = 0 := by simpa using hl
    subst this
    rw [List.findIdx?_cons] at h
    by_cases e : (g == f) = true
    · have e : g = f := beq_iff_eq.mp e
      subst e
      simp [putF]
    · rw [if_neg e] at h
      obtain ⟨j, h1, h2⟩ := Option.map_eq_some_iff.mp h
      omega
  | g :: fl, i, x :: xs, h, hl => by
    rw [List.findIdx?_cons] at h
    by_cases e : (g == f) = true
    · rw [if_pos e] at h
      cases h
      have e : g = f := beq_iff_eq.mp e
      subst e
      simp [putF]
    · rw [if_neg e] at h
      obtain ⟨j, h1, rfl⟩ := Option.map_eq_some_iff.mp h
      have e' : ¬ g = f := fun z => e (beq_iff_eq.mpr z)
      rw [List.zip_cons_cons]
      show (if g = f then _ else (g, x) :: putF f y (fl.zip xs)) = _
      rw [if_neg e', putF_zip h1 (by simpa using hl)]
      simp
/-- where the field f stands, class by class -/
structure FldOk (K : PySem.W.Frag) (G : Gx) (f : Str) (tab : List (Nat × Nat)) : Prop where
  ix : ∀ t i, tab.lookup t = some i → (G.fld t).findIdx? (· == f) = some i ∧ (G.fld t).length < 1000
  cl : ∀ t i, tab.lookup t = some i → Cls K (G.cls t) ∧ NoAttr K (G.cls t) f
theorem FldOk.nil {K : PySem.W.Frag} {G : Gx} {f : Str} : FldOk K G f [] := ⟨fun _ _ h => by simp at h, fun _ _ h => by simp at h⟩
theorem FldOk.cons {K : PySem.W.Frag} {G : Gx} {f : Str} {tab : List (Nat × Nat)} {t i : Nat} (h1 : (G.fld t).findIdx? (· == f) = some i) (h2 : (G.fld t).length < 1000) (c : Cls K (G.cls t)) (n : NoAttr K (G.cls t) f) (r : FldOk K G f tab) : FldOk K G f ((t, i) :: tab) := by
  have key : ∀ u j, ((t, i) :: tab).lookup u = some j → (u = t ∧ j = i) ∨ tab.lookup u = some j := fun u j h => by
    rw [List.lookup_cons] at h
    by_cases e : (u == t) = true
    · rw [e] at h
      exact .inl ⟨beq_iff_eq.mp e, (Option.some.inj h).symm⟩
    · rw [Bool.eq_false_iff.mpr e] at h
      exact .inr h
  refine ⟨fun u j h => ?_, fun u j h => ?_⟩
  · rcases key u j h with ⟨rfl, rfl⟩ | h
    · exact ⟨h1, h2⟩
    · exact r.ix u j h
  · rcases key u j h with ⟨rfl, rfl⟩ | h
    · exact ⟨c, n⟩
    · exact r.cl u j h
def fFld (tab : List (Nat × Nat)) : F1
  | .ins t ds, Q => ∃ i x, tab.lookup t = some i ∧ ds[i]? = some x ∧ Q (.sh x)
  | _, _ => False
@[simp] theorem fFld_0 (tab : List (Nat × Nat)) (t : Nat) (ds : List D) (Q : RD → Prop) : fFld tab (.ins t ds) Q = (∃ i x, tab.lookup t = some i ∧ ds[i]? = some x ∧ Q (.sh x)) := rfl
@[simp] def wSetF (i : Nat) (tab : List (Nat × Nat)) (w : WE) : WS := fun De δ => w δ fun r δ1 => ¬ r.bor ∧ ∃ t fs k, δ1.sl[i]? = some (some (.ow (.ins t fs))) ∧ tab.lookup t = some k ∧ k ≤ fs.length ∧
  De.nx ⟨δ1.sl.set i (some (.ow (.ins t (fs.take k ++ r.d :: fs.drop (k + 1))))), δ1.n⟩
section
variable {X : Cx} {G : Gx} {K : PySem.W.Frag} {E : Ent} {f : Str} {tab : List (Nat × Nat)} {o e : Expr} {ta te : TE} {wa we : WE} {pos pos' : Pos}
theorem RB.ins {M : List Addr} {H : Hp} {v : V} {t : Nat} {ds : List D} (h : RB K G M H v (.ins t ds)) : ∃ p dx xs, v = .ref p ∧ H p = some (.ins (G.cls t) dx ((G.fld t).zip xs)) ∧ xs.length ≤ (G.fld t).length ∧ RepAll K G (mask M H) xs ds := by
  rcases h with ⟨p, dx, xs, e, q, l, r⟩ | ⟨p, e, dx, xs, q, l, r⟩
  · exact ⟨p, dx, xs, e, mask_le _ _ q, l, r⟩
  · exact ⟨p, dx, xs, e, q, l, r⟩
theorem uns_fld (ok : FldOk K G f tab) : UnS K G (fun x H1 Q => ∃ a C dx fs v, x = .ref a ∧ H1 a = some (.ins C dx fs) ∧ Cls K C ∧ NoAttr K C f ∧ fs.lookup f = some v ∧ Q v H1) (fFld tab) := fun M H x d al bx Qd h Q k => by
  cases d <;> first | exact h.elim | skip
  obtain ⟨i, y, h1, h2, q⟩ := h
  obtain ⟨p, dx, xs, rfl, hp, hl, r⟩ := bx.ins
  obtain ⟨v, hv, rv⟩ := r.get h2
  exact ⟨p, _, dx, _, v, rfl, hp, (ok.cl _ _ h1).1, (ok.cl _ _ h1).2, by rw [lookup_zip xs (ok.ix _ _ h1).1]; exact hv, k v (.sh y) H (Same.refl _) (rn_sh rv) q⟩
theorem de_fld (K : PySem.W.Frag) (ok : FldOk K G f tab) (he : DE X G o ta wa) (hb : attributeBase o f X.env (eval o X.env) = eval o X.env := by rfl) (hK : X.K = K := by rfl) : DE X G (.Attribute o f pos) (tFld K ta f) (wUn (fFld tab) wa) := by
  subst hK
  exact ⟨pe_fld he.pe hb, fun E => sim_un (uns_fld ok) (he.sim E)⟩
theorem sim_setF {i : Nat} (ok : FldOk K G f tab) (h : ∀ E, SimE K G E te we) : SimS K G (sFld K (tVar i) te f) (wSetF i tab we) := fun E am M σ δ H S D3 q De R => by
  refine h E am M σ δ H S _ q _ fun y r δ1 H1 S1 e1 o1 rv ⟨nb, t, fs, k, h0, h1, hk, q⟩ => ?_
  obtain ⟨a1, a2, a3, a4, dx, xs, a5, a6, a7⟩ := S1.ow i _ h0
  obtain ⟨f1, f2⟩ := ok.ix _ _ h1
  have hk' : k ≤ xs.length := by rw [a7.length]; exact hk
  have kl : k < (G.fld t).length := by
    have := List.findIdx?_eq_some_iff_findIdx_eq.mp f1
    exact this.1
  refine ⟨_, a1, am i, _, dx, _, rfl, a5, (ok.cl _ _ h1).1, (ok.cl _ _ h1).2, ?_, R.nx am M _ _ _ (S1.mut (d' := .ins t (fs.take k ++ r.d :: fs.drop (k + 1))) h0 ⟨dx, xs.take k ++ y :: xs.drop (k + 1), ?_, ?_, ?_⟩ rfl) q⟩
  · rw [List.length_zip]; omega
  · rw [upd_same, putF_zip f1 hk']
  · rw [List.length_append, List.length_cons, List.length_take, List.length_drop]; omega
  · rw [mask_upd a2]
    exact (a7.take k).append ⟨y, _, rfl, rv.k.rep nb, a7.drop (k + 1)⟩
theorem ds_fld (i : Nat) (K : PySem.W.Frag) (ok : FldOk K G f tab) (hx : PE X o (tVar i)) (he : DE X G e te we) (hs : swapsWith e (some (.Attribute o f pos')) pos.line X.env = pure false := by rfl) (hK : X.K = K := by rfl) :
    DS X G (.Assign [.Attribute o f pos'] e pos) (sFld K (tVar i) te f) (wSetF i tab we) := by
  subst hK
  exact ⟨ps_fld hx he.pe hs, sim_setF ok he.sim⟩
end
def liftI (K : PySem.W.Frag) (Gf : Addr → Addr → Gx) (t : Nat) (C : Con) : Sp := fun vs H Q _ => ∃ (a c : Addr) (ads : List Addr) (ds : List D) (n : Nat) (Qd : D → Nat → Prop) (x dx : Addr) (us : List V), vs = .ref x :: us ∧
  (∀ y ∈ (Gf a c).dk, y ∈ ads) ∧ (∀ y ∈ ads, H y ≠ none) ∧ x ∉ ads ∧ H x = some (.ins ((Gf a c).cls t) dx []) ∧ (Gf a c).DI n H ∧ RepAll K (Gf a c) (mask (x :: ads) H) us ds ∧ C ds n Qd ∧
  ∀ (d : D) (n' : Nat) (H' : Hp), (∀ b o, H b = some o → b ∉ (Gf a c).dk → b ≠ x → H' b = some o) → (Gf a c).DI n' H' → Rep K (Gf a c) (mask ads H') (.ref x) d → Qd d n' → Q .non H'
def startI (N : List Str) (t : Nat) (ds : List D) : List (Option SV) := some (.ow (.ins t [])) :: (ds.map (fun d => some (.sh d)) ++ List.replicate (N.length - (ds.length + 1)) none)
theorem tail_get {ds : List D} {n i : Nat} {s : SV} (h : (ds.map (fun d => some (SV.sh d)) ++ List.replicate n none)[i]? = some (some s)) : ∃ d, s = .sh d ∧ ds[i]? = some d := by
  by_cases q : i < ds.length
  · rw [List.getElem?_append_left (by simpa using q), List.getElem?_map] at h
    cases e : ds[i]? with
    | none => rw [e] at h; cases h
    | some d =>
      rw [e] at h
      exact ⟨d, by simpa using h.symm, rfl⟩
  · rw [List.getElem?_append_right (by simpa using q), List.getElem?_replicate] at h
    split at h <;> cases h
section
variable {P : Program} {w : World} {K : PySem.W.Frag} {mg : Str → Option Value} {base : Heap} {k : Nat} {f : Addr} {fd : FuncData} {ps N : List Str} {x qual : Str} {params : Arguments} {body : List Stmt} {scope : Scope} {Gf : Addr → Addr → Gx} {C : Con} {ws : WS} {t : Nat}
theorem init_sr {G : Gx} {H : Hp} {ads : List Addr} {n : Nat} {x dx : Addr} {us : List V} {ds : List D} (hk : ∀ y ∈ G.dk, y ∈ ads) (ha : ∀ y ∈ ads, H y ≠ none) (hx : x ∉ ads) (hi : H x = some (.ins (G.cls t) dx [])) (di : G.DI n H) (r : RepAll K G (mask (x :: ads) H) us ds) :
    SR K G ⟨fun b => if b = x then none else H b, ads, [], some x⟩ (fun _ => x) (x :: ads) (L2.start N (.ref x :: us)) ⟨startI N t ds, n⟩ H where
  len := by unfold L2.start startI; simp [r.length]
  sh := fun i d h => by
    cases i with
    | zero => cases h
    | succ i =>
      obtain ⟨d', e1, e2⟩ := tail_get (h : (ds.map (fun d => some (SV.sh d)) ++ List.replicate (N.length - (ds.length + 1)) none)[i]? = _)
      cases e1
      obtain ⟨v, h1, h2⟩ := r.get e2
      refine ⟨v, ?_, h2⟩
      have il : i < us.length := (List.getElem?_eq_some_iff.mp h1).1
      unfold L2.start
      rw [List.getElem?_append_left (by simp; omega), List.getElem?_map, List.getElem?_cons_succ, h1]
      rfl
  ow := fun i d h => by
    cases i with
    | zero =>
      cases h
      exact ⟨rfl, List.mem_cons_self, hx, if_pos rfl, dx, [], by simpa using hi, Nat.zero_le _, rfl⟩
    | succ i =>
      obtain ⟨d', e1, e2⟩ := tail_get (h : (ds.map (fun d => some (SV.sh d)) ++ List.replicate (N.length - (ds.length + 1)) none)[i]? = _)
      cases e1
  inj := fun i j ⟨d, h⟩ ⟨d', h'⟩ _ => by
    have z : ∀ (i : Nat) (d : D), (startI N t ds)[i]? = some (some (SV.ow d)) → i = 0 := fun i d h => by
      cases i with
      | zero => rfl
      | succ i =>
        obtain ⟨d', e1, e2⟩ := tail_get (h : (ds.map (fun d => some (SV.sh d)) ++ List.replicate (N.length - (ds.length + 1)) none)[i]? = _)
        cases e1
    rw [z i d h, z j d' h']
  ads := fun a z => List.mem_cons_of_mem _ z
  dks := hk
  al := fun a z => by
    rcases List.mem_cons.mp z with e | e
    · subst e; rw [hi]; simp
    · exact ha a e
  base := fun b o h _ => by
    have h : (if b = x then none else H b) = some o := h
    by_cases e : b = x
    · rw [if_pos e] at h; cases h
    · rw [if_neg e] at h; exact h
  di := di
  gh := fun p hp => by cases hp
  slf := fun y hy d h k => by cases hy; rfl
theorem FnG.init (t : Nat) (F : FunB K x qual params body scope f fd) (S : FnScope N ps scope) (len : ∀ ds n Q, C ds n Q → ds.length + 1 = ps.length)
    (hb : ∀ (cdv : Value) (A : Around) (outer : List Env) (s : Shared) (H : Hp) (E : XK) (a c : Addr), Room k (A.deeper (envOfC qual scope s.heap.objs.size f cdv)) → A.guards = some [] →
      ∃ t, DSs (cxOf CX0 P w K mg base N qual scope f cdv A outer s H E).nox (Gf a c) body t ws)
    (hw : ∀ ds n Q, C ds n Q → ws ⟨fun δ => ∃ fs, δ.sl[0]? = some (some (.ow (.ins t fs))) ∧ Q (.ins t fs) δ.n, fun _ _ => False, fun _ => False, fun _ => False⟩ ⟨startI N t ds, n⟩) : FnG P w K mg base CX0 (k + 1) f fd ps (liftI K Gf t C) := by
  refine FnG.of F S (fun vs H Q E ⟨a, c, ads, ds, n, Qd, x, dx, us, e, _, _, _, _, _, r, hc, _⟩ => by rw [e, List.length_cons, r.length]; exact len ds n Qd hc) fun cdv A outer s H vs Q E hr hg ⟨a, c, ads, ds, n, Qd, x, dx, us, e, hk, ha, hx, hi, di, r, hc, q⟩ => ?_
  subst e
  obtain ⟨tt, ht⟩ := hb cdv A outer s H E a c hr hg
  refine ⟨tt, ht.ps.nox, ht.sim ⟨fun b => if b = x then none else H b, ads, [], some x⟩ _ _ _ _ H (init_sr hk ha hx hi di r) _ (hw ds n Qd hc) _ ⟨fun am M σ δ H' S' ⟨fs, h0, z⟩ => ?_, fun _ _ _ _ _ _ z => z, fun _ _ _ _ _ _ z => z, fun v d n' H' rv hbase di' z => z.elim⟩⟩
  obtain ⟨_, _, a3, _, own⟩ := S'.ow 0 _ h0
  have e0 : am 0 = x := S'.slf x rfl _ h0 rfl
  rw [e0] at own a3
  refine q (.ins t fs) δ.n H' (fun b o h hd ne => S'.base b o (by show (if b = x then none else H b) = some o; rw [if_neg ne]; exact h) hd) S'.di (own.rep (mask_sub S'.ads) fun o e => by rw [mask_out a3]; exact e) z
end
@[simp] def wMeth (t : Nat) (C : Con) (n m : Nat) (perm : List Nat) (dd : List D) (wo : WE) (w wk : WA) : WE := fun δ Q => wo δ fun r δ0 => ¬ r.bor ∧ (∃ fs, r.d = .ins t fs) ∧ w δ0 fun rs δ1 => wk δ1 fun qs δ2 => keeps rs ∧ keeps qs ∧ rs.length = n ∧ qs.length = m ∧
  C (r.d :: pick perm (rs.map RD.d ++ qs.map RD.d ++ dd)) δ2.n fun d n' => Q (.sh d) ⟨δ2.sl, n'⟩
section
variable {X : Cx} {G : Gx} {K : PySem.W.Frag} {E : Ent} {Gf : Addr → Addr → Gx} {a c : Addr} {C : Con} {dd : List D} {dvs : List V} {to : TE} {wo : WE} {ts tk : TA} {wa wk : WA} {n m t : Nat} {perm : List Nat}
theorem sim_make {Ex : XK} (h : SimA K (Gf a c) E ts wa) (h' : SimA K (Gf a c) E tk wk) (hd : Dfl K (Gf a c) dvs dd) : SimE K (Gf a c) E (tMakeP ((Gf a c).cls t) (liftI K Gf t C) n m perm dvs Ex ts tk) (wCallP C n m perm dd wa wk) := fun am M σ δ H S Qd q Q k =>
  h am M σ δ H S _ q _ fun vs rs δ1 H1 S1 e1 o1 r1 q => h' am M σ δ1 H1 S1 _ q _ fun zs qs δ2 H2 S2 e2 o2 r2 ⟨k1, k2, l1, l2, hc⟩ => by
    refine ⟨by rw [r1.length]; exact l1, by rw [r2.length]; exact l2, fun x dx hx hdx ne => ?_⟩
    have hx' : (upd H2 dx (.own x)) x = none := by rw [upd_ne ne.symm]; exact hx
    have sm : Same H2 (upd (upd H2 dx (.own x)) x (.ins ((Gf a c).cls t) dx [])) := (same_new hdx).trans (same_new hx')
    have S3 := S2.grow sm
    have xM : x ∉ M := fun z => S2.al x z hx
    have rep := pick_rep (perm := perm) ((((r1.later (δ2 := δ2) S1 e2 k1).rep k1).append (r2.rep k2)).append (hd _))
    refine ⟨a, c, M, _, δ2.n, _, x, dx, _, rfl, fun y hy => S3.ads y (S3.dks y hy), S3.al, xM, upd_same, S3.di, rep.mono (mask_new hx sm), hc, fun d n' H' hb di rv hq => ⟨rfl, ?_⟩⟩
    have hb' : ∀ b o, H2 b = some o → b ∉ (Gf a c).dk → H' b = some o := fun b o h hk => hb b o (sm b o h) hk fun z => by subst z; rw [hx] at h; cases h
    exact k (.ref x) (.sh d) ⟨δ2.sl, n'⟩ H' (S2.after hb' di) ((e1.trans o1 e2).trans (fun i z => o1 i (o2 i z)) fun b o h hk _ => hb' b o h hk) (fun i z => o1 i (o2 i z)) rv hq
theorem zip_none {mn : Str} : ∀ {fl : List Str} (xs : List V), mn ∉ fl → (fl.zip xs).lookup mn = none
  | [], _, _ => by simp
  | g :: fl, [], _ => by simp
  | g :: fl, x :: xs, h => by
    have h1 : (mn == g) = false := by
      rw [Bool.eq_false_iff]
      exact fun z => h (by rw [beq_iff_eq.mp z]; exact List.mem_cons_self)
    rw [List.zip_cons_cons, List.lookup_cons, h1]
    exact zip_none xs fun z => h (List.mem_cons_of_mem _ z)
theorem sim_meth {Ex : XK} {mn : Str} (hmn : mn ∉ (Gf a c).fld t) (ho : SimE K (Gf a c) E to wo) (h : SimA K (Gf a c) E ts wa) (h' : SimA K (Gf a c) E tk wk) (hd : Dfl K (Gf a c) dvs dd) :
    SimE K (Gf a c) E (tMethP ((Gf a c).cls t) mn (lift K Gf C) n m perm dvs Ex to ts tk) (wMeth t C n m perm dd wo wa wk) := fun am M σ δ H S Qd q Q k =>
  ho am M σ δ H S _ q _ fun x r δ0 H0 S0 e0 o0 r0 ⟨nb, ⟨fs, ef⟩, q⟩ => by
    have rr := r0.k.rep nb
    have ri := rr
    rw [ef] at ri
    obtain ⟨p, dx, xs, rfl, hp, hl, rx⟩ := ri
    refine ⟨p, dx, _, rfl, mask_le _ _ hp, zip_none xs hmn, ?_⟩
    refine h am M σ δ0 H0 S0 _ q _ fun vs rs δ1 H1 S1 e1 o1 r1 q => h' am M σ δ1 H1 S1 _ q _ fun zs qs δ2 H2 S2 e2 o2 r2 ⟨k1, k2, l1, l2, hc⟩ => ?_
    refine ⟨by rw [r1.length]; exact l1, by rw [r2.length]; exact l2, ?_⟩
    have rep := pick_rep (perm := perm) ((((r1.later (δ2 := δ2) S1 e2 k1).rep k1).append (r2.rep k2)).append (hd _))
    have r0' : Rep K (Gf a c) (mask M H2) (.ref p) r.d := Rep.mono ((S0.mask e1).trans (S1.mask e2)) _ rr
    exact lift_use S2 (RepAll.cons r0' rep) hc fun v r δ' H' S' e' o' rv hq =>
      k v r δ' H' S' (((e0.trans o0 e1).trans (fun i z => o0 i (o1 i z)) e2).trans (fun i z => o0 i (o1 i (o2 i z))) e') (fun i z => o0 i (o1 i (o2 i (o' i z)))) rv hq
theorem sim_inst {Ex : XK} (ho : SimE K (Gf a c) E to wo) (h : SimA K (Gf a c) E ts wa) (h' : SimA K (Gf a c) E tk wk) (hd : Dfl K (Gf a c) dvs dd) :
    SimE K (Gf a c) E (tInst ((Gf a c).cls t) (lift K Gf C) n m perm dvs Ex to ts tk) (wMeth t C n m perm dd wo wa wk) := fun am M σ δ H S Qd q Q k =>
  ho am M σ δ H S _ q _ fun x r δ0 H0 S0 e0 o0 r0 ⟨nb, ⟨fs, ef⟩, q⟩ => by
    have rr := r0.k.rep nb
    have ri := rr
    rw [ef] at ri
    obtain ⟨p, dx, xs, rfl, hp, hl, rx⟩ := ri
    refine ⟨p, rfl, ?_⟩
    refine h am M σ δ0 H0 S0 _ q _ fun vs rs δ1 H1 S1 e1 o1 r1 q => h' am M σ δ1 H1 S1 _ q _ fun zs qs δ2 H2 S2 e2 o2 r2 ⟨k1, k2, l1, l2, hc⟩ => ?_
    have rep := pick_rep (perm := perm) ((((r1.later (δ2 := δ2) S1 e2 k1).rep k1).append (r2.rep k2)).append (hd _))
    have r0' : Rep K (Gf a c) (mask M H2) (.ref p) r.d := Rep.mono ((S0.mask e1).trans (S1.mask e2)) _ rr
    have ri' := r0'
    rw [ef] at ri'
    obtain ⟨p', dx', xs', e', hp', _⟩ := ri'
    cases e'
    refine ⟨by rw [r1.length]; exact l1, by rw [r2.length]; exact l2, ⟨dx', _, mask_le _ _ hp'⟩, ?_⟩
    exact lift_use S2 (RepAll.cons r0' rep) hc fun v r δ' H' S' e' o' rv hq =>
      k v r δ' H' S' (((e0.trans o0 e1).trans (fun i z => o0 i (o1 i z)) e2).trans (fun i z => o0 i (o1 i (o2 i z))) e') (fun i z => o0 i (o1 i (o2 i (o' i z)))) rv hq
variable {k : Nat} {f : Addr} {fd : FuncData} {ps ks : List Str} {ds : List Value} {x mn : Str} {p pos apos : Pos} {o : Expr} {es : List Expr} {kws : List Keyword}
theorem de_make (K : PySem.W.Frag) (t : Nat) (M : Mk K ((Gf a c).cls t) f) (F : FnG X.prog X.w K X.mg X.base CX0 k f fd ps (liftI K Gf t C)) (hr : Room (k + 1) X.A) (hg : X.A.guards = some []) (hm : X.mg x = some (.ref ((Gf a c).cls t))) (hb : KBm K fd ps n ks perm ds) (hv : Vals dvs ds) (hd : Dfl K (Gf a c) dvs dd)
    (ha : DA X (Gf a c) es ts wa) (hkw : DK X (Gf a c) kws tk wk) (gl : Gl X x := by rfl) (ok : ArgsOk X es kws pos ks := by exact ⟨by first | exact .inl rfl | exact .inr ⟨_, _, rfl, rfl⟩, rfl, rfl, rfl⟩) (hn : es = [] → ts = tNil := by first | exact fun _ => rfl | (intro h; cases h)) (hdb : (x == ("__debug__" : Str)) = false := by decide) (hl : ks.length = m := by rfl) (hK : X.K = K := by rfl) :
    DE X (Gf a c) (.Call (.Name x p) es kws pos) (tMakeP ((Gf a c).cls t) (liftI K Gf t C) n m perm dvs E0 ts tk) (wCallP C n m perm dd wa wk) := by
  subst hK hl
  exact ⟨pg_make M F hr hg gl hm hb hv pass0 ok hn ha.pa hkw.pk hdb, fun E => sim_make (ha.sim E) (hkw.sim E) hd⟩
theorem de_meth {pl : Sem Bool} (K : PySem.W.Frag) (t : Nat) (c' : Cls K ((Gf a c).cls t)) (hm : Meth K ((Gf a c).cls t) mn f) (F : FnG X.prog X.w K X.mg X.base CX0 k f fd ps (lift K Gf C)) (hr : Room k X.A) (hg : X.A.guards = some []) (hb : KBm K fd ps n ks perm ds) (hv : Vals dvs ds) (hd : Dfl K (Gf a c) dvs dd)
    (hmn : mn ∉ (Gf a c).fld t) (he : DE X (Gf a c) o to wo) (ha : DA X (Gf a c) es ts wa) (hkw : DK X (Gf a c) kws tk wk) (ok : ArgsOk X es kws pos ks := by exact ⟨by first | exact .inl rfl | exact .inr ⟨_, _, rfl, rfl⟩, rfl, rfl, rfl⟩) (hn : es = [] → ts = tNil := by first | exact fun _ => rfl | (intro h; cases h))
    (ht : eval (.Call (.Attribute o mn apos) es kws pos) X.env = (do
      let ov ← eval o X.env
      standAt apos.atName
      let (f, first) ← holding [ov] (getMethod ov mn pl)
      callWith pos f first (backTo pos (starEach es X.env)) (backToKw pos (keywordEach kws X.env))) := by rfl) (hl : ks.length = m := by rfl) (hK : X.K = K := by rfl) :
    DE X (Gf a c) (.Call (.Attribute o mn apos) es kws pos) (tMethP ((Gf a c).cls t) mn (lift K Gf C) n m perm dvs E0 to ts tk) (wMeth t C n m perm dd wo wa wk) := by
  subst hK hl
  exact ⟨pg_meth he.pe c' hm F hr hg hb hv pass0 ok hn ha.pa hkw.pk ht, fun E => sim_meth hmn (he.sim E) (ha.sim E) (hkw.sim E) hd⟩
theorem de_inst {fe : Expr} (K : PySem.W.Frag) (t : Nat) (c' : CallI K ((Gf a c).cls t) f) (F : FnG X.prog X.w K X.mg X.base CX0 k f fd ps (lift K Gf C)) (hr : Room k X.A) (hg : X.A.guards = some []) (hb : KBm K fd ps n ks perm ds) (hv : Vals dvs ds) (hd : Dfl K (Gf a c) dvs dd)
    (he : DE X (Gf a c) fe to wo) (ha : DA X (Gf a c) es ts wa) (hkw : DK X (Gf a c) kws tk wk) (ok : ArgsOk X es kws pos ks := by exact ⟨by first | exact .inl rfl | exact .inr ⟨_, _, rfl, rfl⟩, rfl, rfl, rfl⟩) (hn : es = [] → ts = tNil := by first | exact fun _ => rfl | (intro h; cases h))
    (ht : eval (.Call fe es kws pos) X.env = (do callWith pos (← eval fe X.env) [] (backTo pos (starEach es X.env)) (backToKw pos (keywordEach kws X.env))) := by rfl) (hl : ks.length = m := by rfl) (hK : X.K = K := by rfl) :
    DE X (Gf a c) (.Call fe es kws pos) (tInst ((Gf a c).cls t) (lift K Gf C) n m perm dvs E0 to ts tk) (wMeth t C n m perm dd wo wa wk) := by
  subst hK hl
  exact ⟨pg_inst he.pe c' F hr hg hb hv pass0 ok hn ha.pa hkw.pk ht, fun E => sim_inst (he.sim E) (ha.sim E) (hkw.sim E) hd⟩
end
end L3
namespace L3
open PySem PySem.Spec PyProof.Rows L2
/-- the kind: false a list, true a tuple -/
def SqB (K : PySem.W.Frag) (H : Hp) : Bool → Addr → List V → Prop
  | false, a, xs => SqL K H a xs
  | true, a, xs => SqT K H a xs
def seqAt (h : Heap) : Bool → Addr → Array Value → Prop
  | false, a, its => h.IsList a its
  | true, a, its => h.IsTuple a its
def iterAt (h : Heap) : Bool → Addr → Addr → Nat → Prop
  | false, it, a, i => h.IsListIter it a i
  | true, it, a, i => h.IsTupleIter it a i
def iterOb : Bool → Addr → Obj
  | false, a => { cls := .type "list_iterator", data := .fields #[.ref a, .int 0 0] }
  | true, a => { cls := .type "tuple_iterator", data := .fields #[.ref a, .int 0 0] }
theorem iterAt.ob {h : Heap} {t : Bool} {it a : Addr} {i : Nat} (x : iterAt h t it a i) : ∃ o, h.get? it = some o ∧ ∀ v, o.data ≠ .cell v := by
  cases t with
  | false => obtain ⟨o, ho, _, hd⟩ := id x; exact ⟨o, ho, fun v q => by rw [hd] at q; cases q⟩
  | true => obtain ⟨o, ho, _, hd⟩ := id x; exact ⟨o, ho, fun v q => by rw [hd] at q; cases q⟩
theorem iterAt.to {h h' : Heap} {t : Bool} {it a : Addr} {i : Nat} (x : iterAt h t it a i) (k : ∀ o, h.get? it = some o → h'.get? it = some o) : iterAt h' t it a i := by
  cases t with
  | false => exact Heap.IsListIter.at x k
  | true => exact Heap.IsTupleIter.at x k
theorem drawsB {P : Program} {w : World} {A : Around} (hh : A.handled = none) (t : Bool) (it a : Addr) (ne : a ≠ it) (items : Array Value) :
    Draws P w A it [it, a] items.size (fun i v => items[i]? = some v) (fun i h => iterAt h t it a i ∧ seqAt h t a items) := by
  cases t with
  | false => exact Draws.list hh it a ne items
  | true => exact Draws.tuple hh it a ne items
theorem beginsB (t : Bool) (a : Addr) (items : Array Value) : Begins (.ref a) (iterOb t a) fun h => seqAt h t a items := by
  cases t with
  | false => exact begins_list a items
  | true => exact begins_tuple a items
theorem iterOb_at {h : Heap} {t : Bool} {it a : Addr} (e : h.get? it = some (iterOb t a)) : iterAt h t it a 0 := by
  cases t with
  | false => exact ⟨_, e, rfl, rfl⟩
  | true => exact ⟨_, e, rfl, rfl⟩
section
variable {X : Cx} {pins : List (Addr × Obj)} {σ : L2.St} {H : Hp} {s : Shared} {a : Addr} {xs : List V} {t : Bool}
theorem seq_its (I : Inv X pins σ H s) (h : SqB X.K H t a xs) : ∃ its : List Value, Vals xs its ∧ seqAt s.heap t a its.toArray ∧ a < s.heap.objs.size := by
  cases t with
  | false =>
    obtain ⟨its, r, p, _⟩ := I.list h
    exact ⟨its, r, p.isList, p.lt⟩
  | true =>
    obtain ⟨its, r, p, _⟩ := I.tuple h
    obtain ⟨o, ho, _⟩ := id p
    exact ⟨its, r, p, Heap.lt_size ho⟩
theorem seq_inj (I : Inv X pins σ H s) {ys : List V} (h : SqB X.K H t a xs) (h' : SqB X.K H t a ys) : xs = ys := by
  cases t with
  | false => exact I.list_inj h h'
  | true => exact I.tuple_inj h h'
end
def ItEn (K : PySem.W.Frag) (t : Bool) (a : Addr) : It where
  go := fun i H => ∃ (xs : List V) (x : V), SqB K H t a xs ∧ xs[i]? = some x
  yld := fun i H v H' => ∃ T x, v = .ref T ∧ H T = none ∧ H' = upd H T (.tup [.int (i : Nat), x]) ∧ ∀ xs, SqB K H t a xs → xs[i]? = some x
  stop := fun i H => ∃ xs : List V, SqB K H t a xs ∧ xs.length = i
theorem turn_en {P : Program} {w : World} {K : PySem.W.Frag} {elts : List Expr} {kk : Nat} {tpos : Pos} (t : Bool) (a e it : Addr) :
    Turn P w K (.Tuple elts kk tpos) (ItEn K t a) [e, it] e (fun i h => (∃ old, IsEnum h e it ((i : Nat) : Int) old) ∧ iterAt h t it a i ∧ e ≠ it ∧ a ≠ it ∧ e ≠ a) where
  mem := List.mem_cons_self
  obj := fun i h ⟨⟨old, he⟩, hi, _⟩ b hb => by
    rcases List.mem_cons.mp hb with z | z
    · subst z; exact ⟨_, he, fun v q => nomatch q⟩
    · rw [List.mem_singleton.mp z]; exact hi.ob
  keep := fun i h h' ⟨⟨old, he⟩, hi, ne⟩ k => ⟨⟨old, k e List.mem_cons_self _ he⟩, hi.to fun o q => k it (by simp) o q, ne⟩
  item := by
    intro X hP hw hK hc i pins s σ H E I hf ⟨⟨old, he⟩, hit, n1, n2, n3⟩ ⟨xs, x, hq, hx⟩
    subst hP hw hK
    obtain ⟨its, rv, p, _⟩ := seq_its I hq
    obtain ⟨u, hu, ru⟩ := rv.get hx
    have el : e < s.heap.objs.size := Heap.lt_size he
    have il : it < s.heap.objs.size := by obtain ⟨o, ho, _⟩ := hit.ob; exact Heap.lt_size ho
    have lt : i < its.toArray.size := by simpa using (List.getElem?_eq_some_iff.mp hu).1
    refine wpAny_pyNext_enum_itemD (drawsB (A := X.A.in1) (I.ok.hd hc) t it a n2 its.toArray) he ⟨hit, p⟩ lt n1 (by simp [n1, n3]) fun y h1 tk hy ho st1 hT sz hk => ?_
    have ey : y = u := by
      have hu' : its.toArray[i]? = some u := by simpa using hu
      have hy : its.toArray[i]? = some y := hy
      rw [hu'] at hy
      exact (Option.some.inj hy).symm
    subst ey
    refine ⟨_, rfl, wpAny_letOwnedTupleGo_enum (s := { s with heap := h1, toks := tk + 1 }) ho fun h2 he2 sb => ?_⟩
    have hT2 : h2.get? s.heap.objs.size = some { cls := .type "tuple", data := .seq #[.int i tk, y] } := (sb.2 _ (Nat.ne_of_gt el)).trans hT
    have ob : ObjOk X.prog X.w (upd H s.heap.objs.size (.tup [.int (i : Nat), x])) h2 s.heap.objs.size (.tup [.int (i : Nat), x]) :=
      ⟨(by decide : 2 ≤ sizeLine), [.int i tk, y], .cons ⟨_, rfl⟩ (.cons ru .nil), ⟨_, hT2, rfl, _, rfl⟩⟩
    have I2 : Inv X pins σ (upd H s.heap.objs.size (.tup [.int (i : Nat), x])) { s with heap := h2, toks := tk + 1 } := by
      refine I.turnedNew (ch := [e, it]) (fun b o hb q => ?_) hf (Nat.le_refl _) ob
      have b1 : b ≠ e := fun z => hb (by simp [z])
      have b2 : b ≠ it := fun z => hb (by simp [z])
      exact (sb.2 b b1).trans (hk b o b1 b2 q)
    refine ⟨.ref s.heap.objs.size, _, I2, rfl, ⟨_, x, rfl, I.hok.fresh (Nat.le_refl _), rfl, fun ys hy => by rw [seq_inj I hy hq]; exact hx⟩, ⟨⟨y, ?_⟩, st1.1.to fun o q => (sb.2 it n1.symm).trans q, n1, n2, n3⟩, fun b hb => ?_⟩
    · rw [show ((i + 1 : Nat) : Int) = (i : Int) + 1 by omega]; exact he2
    · have lb : b < s.heap.objs.size := by
        rcases List.mem_cons.mp hb with z | z
        · rw [z]; exact el
        · rw [List.mem_singleton.mp z]; exact il
      rw [upd_ne (Nat.ne_of_lt lb)]
      exact (hf b hb).1
  done := by
    intro X hP hw hK hc i pins s σ H E I hf ⟨⟨old, he⟩, hit, n1, n2, n3⟩ ⟨xs, hq, hl⟩
    subst hP hw hK
    obtain ⟨its, rv, p, _⟩ := seq_its I hq
    have en : i = its.toArray.size := by rw [List.size_toArray, ← rv.length]; exact hl.symm
    subst en
    obtain ⟨f0, f1, f2, f3, f4, f5⟩ := hf it (by simp)
    exact wpAny_pyNext_enum_endD (drawsB (A := X.A.in1) (I.ok.hd hc) t it a n2 its.toArray) he ⟨hit, p⟩ fun h1 eb => ⟨rfl, I.turned (t' := s.toks) (fun b o hb q => eb b o hb q) f0 f1 f3 f4 f5⟩
  self := fun A i s Q E ⟨⟨_, he⟩, _⟩ h => wpAny_pyIter_enum he h
def ItZp (K : PySem.W.Frag) (t u : Bool) (a b : Addr) : It where
  go := fun i H => ∃ (xs ys : List V) (x y : V), SqB K H t a xs ∧ SqB K H u b ys ∧ xs[i]? = some x ∧ ys[i]? = some y
  yld := fun i H v H' => ∃ T x y, v = .ref T ∧ H T = none ∧ H' = upd H T (.tup [x, y]) ∧ (∀ xs, SqB K H t a xs → xs[i]? = some x) ∧ ∀ ys, SqB K H u b ys → ys[i]? = some y
  stop := fun i H => ∃ xs ys : List V, SqB K H t a xs ∧ SqB K H u b ys ∧ i ≤ xs.length ∧ i ≤ ys.length ∧ (i = xs.length ∨ i = ys.length)
theorem turn_zp {P : Program} {w : World} {K : PySem.W.Frag} {elts : List Expr} {kk : Nat} {tpos : Pos} {t u : Bool} {a b z TI TO i1 i2 : Addr} (S : ZipSep2 z TI TO i1 i2 [i1, a] [i2, b]) (na : a ≠ i1) (nb : b ≠ i2) :
    Turn P w K (.Tuple elts kk tpos) (ItZp K t u a b) [z, TI, TO, i1, i2] z (fun i h => IsZip h z TI TO .none ∧ IsTupOf2 h TI (.ref i1) (.ref i2) ∧ (∃ x y, IsTupOf2 h TO x y) ∧ iterAt h t i1 a i ∧ iterAt h u i2 b i) where
  mem := List.mem_cons_self
  obj := fun i h ⟨hz, hI, ⟨x, y, hO⟩, h1, h2⟩ c hc => by
    have e : c = z ∨ c = TI ∨ c = TO ∨ c = i1 ∨ c = i2 := by simpa using hc
    rcases e with q | q | q | q | q
    · subst q; exact ⟨_, hz, fun v q => nomatch q⟩
    · subst q; exact ⟨_, hI, fun v q => nomatch q⟩
    · subst q; exact ⟨_, hO, fun v q => nomatch q⟩
    · subst q; exact h1.ob
    · subst q; exact h2.ob
  keep := fun i h h' ⟨hz, hI, ⟨x, y, hO⟩, h1, h2⟩ k => ⟨k z (by simp) _ hz, k TI (by simp) _ hI, ⟨x, y, k TO (by simp) _ hO⟩, h1.to fun o q => k i1 (by simp) o q, h2.to fun o q => k i2 (by simp) o q⟩
  item := by
    intro X hP hw hK hc i pins s σ H E I hf ⟨hz, hI, ⟨x0, y0, hO⟩, h1, h2⟩ ⟨xs, ys, x, y, qx, qy, hx, hy⟩
    subst hP hw hK
    obtain ⟨its, rv, p, _⟩ := seq_its I qx
    obtain ⟨jts, rw', p', _⟩ := seq_its I qy
    obtain ⟨u1, hu1, ru1⟩ := rv.get hx
    obtain ⟨u2, hu2, ru2⟩ := rw'.get hy
    have zl : z < s.heap.objs.size := Heap.lt_size hz
    have l1 : i < its.toArray.size := by simpa using (List.getElem?_eq_some_iff.mp hu1).1
    have l2 : i < jts.toArray.size := by simpa using (List.getElem?_eq_some_iff.mp hu2).1
    refine wpAny_pyNext_zipD2_item S (drawsB (A := X.A.in1) (I.ok.hd hc) t i1 a na its.toArray) (drawsB (A := X.A.in1) (I.ok.hd hc) u i2 b nb jts.toArray) hz hI hO ⟨h1, p⟩ ⟨h2, p'⟩ l1 l2 fun y1 y2 g1 tk e1 e2 gz gO s1 s2 gT sz hk => ?_
    have r1 : y1 = u1 := by
      have q1 : its.toArray[i]? = some u1 := by simpa using hu1
      have e1 : its.toArray[i]? = some y1 := e1
      rw [q1] at e1
      exact (Option.some.inj e1).symm
    have r2 : y2 = u2 := by
      have q1 : jts.toArray[i]? = some u2 := by simpa using hu2
      have e2 : jts.toArray[i]? = some y2 := e2
      rw [q1] at e2
      exact (Option.some.inj e2).symm
    subst r1 r2
    refine ⟨_, rfl, wpAny_letOwnedTupleGo_zip (s := { s with heap := g1, toks := tk }) gz fun g2 gz2 sb => ?_⟩
    have hT2 : g2.get? s.heap.objs.size = some { cls := .type "tuple", data := .seq #[y1, y2] } := (sb.2 _ (Nat.ne_of_gt zl)).trans gT
    have ob : ObjOk X.prog X.w (upd H s.heap.objs.size (.tup [x, y])) g2 s.heap.objs.size (.tup [x, y]) :=
      ⟨(by decide : 2 ≤ sizeLine), [y1, y2], .cons ru1 (.cons ru2 .nil), ⟨_, hT2, rfl, _, rfl⟩⟩
    have I2 : Inv X pins σ (upd H s.heap.objs.size (.tup [x, y])) { s with heap := g2, toks := tk } := by
      refine I.turnedNew (ch := [z, TI, TO, i1, i2]) (fun c o hb q => ?_) hf (Nat.le_refl _) ob
      have b1 : c ≠ z := fun w => hb (by simp [w])
      exact (sb.2 c b1).trans (hk c o b1 (fun w => hb (by simp [w])) (fun w => hb (by simp [w])) (fun w => hb (by simp [w])) q)
    refine ⟨.ref s.heap.objs.size, _, I2, rfl, ⟨_, x, y, rfl, I.hok.fresh (Nat.le_refl _), rfl, fun l hl => by rw [seq_inj I hl qx]; exact hx, fun l hl => by rw [seq_inj I hl qy]; exact hy⟩, ⟨gz2, ?_, ⟨y1, y2, ?_⟩, ?_, ?_⟩, fun c hcm => ?_⟩
    · exact (sb.2 _ S.TIz).trans (hk _ _ S.TIz S.TITO S.TIi1 S.TIi2 hI)
    · exact (sb.2 _ S.TOz).trans gO
    · exact s1.1.to fun o q => (sb.2 _ S.zi1.symm).trans q
    · exact s2.1.to fun o q => (sb.2 _ S.zi2.symm).trans q
    · have lc : c < s.heap.objs.size := by
        have e : c = z ∨ c = TI ∨ c = TO ∨ c = i1 ∨ c = i2 := by simpa using hcm
        rcases e with q | q | q | q | q
        · rw [q]; exact zl
        · rw [q]; exact Heap.lt_size hI
        · rw [q]; exact Heap.lt_size hO
        · rw [q]; obtain ⟨_, w, _⟩ := h1.ob; exact Heap.lt_size w
        · rw [q]; obtain ⟨_, w, _⟩ := h2.ob; exact Heap.lt_size w
      rw [upd_ne (Nat.ne_of_lt lc)]
      exact (hf c hcm).1
  done := by
    intro X hP hw hK hc i pins s σ H E I hf ⟨hz, hI, ⟨x0, y0, hO⟩, h1, h2⟩ ⟨xs, ys, qx, qy, le1, le2, en⟩
    subst hP hw hK
    obtain ⟨its, rv, p, _⟩ := seq_its I qx
    obtain ⟨jts, rw', p', _⟩ := seq_its I qy
    have n1 := rv.length
    have n2 := rw'.length
    exact wpAny_pyNext_zipD2_end S (drawsB (A := X.A.in1) (I.ok.hd hc) t i1 a na its.toArray) (drawsB (A := X.A.in1) (I.ok.hd hc) u i2 b nb jts.toArray) hz hI hO ⟨h1, p⟩ ⟨h2, p'⟩ (by simp; omega) (by simp; omega) (by simp; omega) fun g1 tk hk => ⟨rfl, I.turnedL (t' := tk) (ch := [z, TI, TO, i1, i2])
      (fun c o hb q => hk c o (fun w => hb (by simp [w])) (fun w => hb (by simp [w])) (fun w => hb (by simp [w])) (fun w => hb (by simp [w])) q) hf⟩
  self := fun A i s Q E st h => wpAny_pyIter_zip st.1 h
end L3
namespace L3
open PySem PySem.Spec PyProof.Rows L2
set_option maxHeartbeats 2000000 in
theorem meets_en1 {v : Value} {o : Obj} {H : Heap → Prop} (B : Begins v o H) : Meets (Builtin.«enumerate.__new__» ⟨[.type "enumerate", v], []⟩) (fun _ R s => H s.heap ∧
    R (.ok (.ret (.ref (s.heap.push o).objs.size))) { s with heap := (s.heap.push o).push { cls := .type "enumerate", data := .fields #[.none, .bool false, .ref s.heap.objs.size, rawInt 0, .none, .none] } }) :=
  .of_wp fun prog w A R s hh => by
    obtain ⟨hp, gs, dr, tk, os⟩ := s
    obtain ⟨h1, hr⟩ := hh
    have hsub := sub_enumerate
    have go : ∀ {A' : Around} {E Q : Value → Shared → Prop}, Q (.ref hp.objs.size) ⟨hp.push o, gs, dr, tk, os⟩ → wpAny (model prog w) A' (pyIter v) Q E ⟨hp, gs, dr, tk, os⟩ := fun q => B.iter prog w _ _ ⟨hp, gs, dr, tk, os⟩ _ h1 q
    wp_walk using go
    refine wpAny_stack_any fun st => wpAny_pure ?_
    split
    · rename_i c _ _ _ _ _
      cases c == Value.type "enumerate" <;> (wp_walk using go) <;> exact ⟨_, rfl, hr⟩
    · (wp_walk using go)
      exact ⟨_, rfl, hr⟩
theorem call_en1 {prog : Program} {w : World} {A : Around} {E : Value → Shared → Prop} {s : Shared} {v : Value} {o : Obj} {H : Heap → Prop} {Q : Value → Shared → Prop} (B : Begins v o H) (h1 : H s.heap)
    (h : ∀ h', IsEnum h' (s.heap.objs.size + 1) s.heap.objs.size 0 .none → h'.get? s.heap.objs.size = some o → (∀ b o, s.heap.get? b = some o → h'.get? b = some o) → Q (.ref (s.heap.objs.size + 1)) { s with heap := h' }) :
    wpAny (model prog w) A (call (.type "enumerate") [v]) Q E s := by
  refine callType_new F.called_enumerate (by decide) (F.typeCall_enumerate_1 _) (F.newCall_enumerate_1 _) (fun obj => F.args_object_init_2 obj _) F.entry_enumerate_new (meets_en1 B) ⟨h1, ?_⟩
  have z1 : (s.heap.push o).objs.size = s.heap.objs.size + 1 := Heap.size_push ..
  show _ ∧ _
  rw [z1]
  have he : IsEnum ((s.heap.push o).push { cls := .type "enumerate", data := .fields #[.none, .bool false, .ref s.heap.objs.size, rawInt 0, .none, .none] }) (s.heap.objs.size + 1) s.heap.objs.size 0 .none := by
    have q := Heap.get?_push_size (s.heap.push o) (o := { cls := .type "enumerate", data := .fields #[.none, .bool false, .ref s.heap.objs.size, rawInt 0, .none, .none] }) rfl
    rw [z1] at q
    exact q
  exact ⟨⟨_, he, rfl⟩, h _ he (Heap.get?_push_of_some _ (Heap.get?_push_size _ B.free)) fun b o x => Heap.get?_push_of_some _ (Heap.get?_push_of_some _ x)⟩
def iEn (K : PySem.W.Frag) (ta : TA) : TI := fun σ H R => ta σ H fun vs H1 => ∃ t a xs, vs = [.ref a] ∧ SqB K H1 t a xs ∧ R (ItEn K t a) H1
theorem pi_en {X : Cx} {e : Expr} {ta : TA} {p pos tpos : Pos} {elts : List Expr} {kk : Nat} (hg : Gl X "enumerate") (hm : X.mg "enumerate" = none) (ha : PA X [e] ta) (hs : starEach [e] X.env = [(false, eval e X.env)]) :
    PI X (.Tuple elts kk tpos) (.Call (.Name "enumerate" p) [e] [] pos) (iEn X.K ta) := by
  refine ⟨fun pins s σ H R I h => Call_ (ld_blt I hg hm boot_enumerate (PyProof.Rows.callWith_type1 (thn (ha.run pos pins s σ H _ I h) fun us s1 ⟨vs, H1, I1, r1, t, a, xs, ex, hq, q⟩ => ?_) hs rfl))⟩
  subst ex
  rw [Vals.ref1 r1]
  obtain ⟨its, rv, p', la⟩ := seq_its I1 hq
  refine call_en1 (beginsB t a its.toArray) p' fun h' he hit hk => wpAny_pyIter_enum he ?_
  have I2 : Inv X pins σ H1 { s1 with heap := h' } := I1.kept (t' := s1.toks) hk
  refine ⟨s1.heap.objs.size + 1, [s1.heap.objs.size + 1, s1.heap.objs.size], _, _, H1, rfl, I2, turn_en t a (s1.heap.objs.size + 1) s1.heap.objs.size, ⟨⟨.none, he⟩, iterOb_at hit, Nat.succ_ne_self _, Nat.ne_of_lt la, (Nat.ne_of_lt (Nat.lt_succ_of_lt la)).symm⟩, fun b hb => ?_, q⟩
  have le : s1.heap.objs.size ≤ b := by
    rcases List.mem_cons.mp hb with z | z
    · rw [z]; exact Nat.le_succ _
    · rw [List.mem_singleton.mp z]; exact Nat.le_refl _
  exact I1.fpOk le (I1.hok.fresh le)
def iZp (K : PySem.W.Frag) (ta : TA) : TI := fun σ H R => ta σ H fun vs H1 => ∃ t u a b xs ys, vs = [.ref a, .ref b] ∧ SqB K H1 t a xs ∧ SqB K H1 u b ys ∧ R (ItZp K t u a b) H1
theorem pi_zp {X : Cx} {e e2 : Expr} {ta : TA} {p pos tpos : Pos} {elts : List Expr} {kk : Nat} (hg : Gl X "zip") (hm : X.mg "zip" = none) (ha : PA X [e, e2] ta)
    (hs : starEach [e, e2] X.env = (false, eval e X.env) :: starEach [e2] X.env) (hpl : (backTo pos (starEach [e2] X.env)).any (·.1) = false) : PI X (.Tuple elts kk tpos) (.Call (.Name "zip" p) [e, e2] [] pos) (iZp X.K ta) := by
  refine ⟨fun pins s σ H R I h => Call_ (ld_blt I hg hm PyProof.Rows.boot_zip (PyProof.Rows.callWith_type1 (thn (ha.run pos pins s σ H _ I h) fun us s1 ⟨vs, H1, I1, r1, t, u, a, b, xs, ys, ex, hq, hq', q⟩ => ?_) hs hpl))⟩
  subst ex
  obtain ⟨u1, u2, rfl, r1, r2⟩ := vals2 r1
  cases r1
  cases r2
  obtain ⟨its, rv, p1, la⟩ := seq_its I1 hq
  obtain ⟨jts, rv', p2, lb⟩ := seq_its I1 hq'
  refine zip_begins2 (beginsB t a its.toArray) (beginsB u b jts.toArray) p1 p2 fun h' hz hI hO e1 e2 _ hk => wpAny_pyIter_zip hz ?_
  have I2 : Inv X pins σ H1 { s1 with heap := h' } := I1.kept (t' := s1.toks) hk
  refine ⟨s1.heap.objs.size + 4, [s1.heap.objs.size + 4, s1.heap.objs.size + 2, s1.heap.objs.size + 3, s1.heap.objs.size, s1.heap.objs.size + 1], _, _, H1, rfl, I2,
    turn_zp (zip_sep2 (fp1 := [a]) (fp2 := [b]) (fun c hc => by rw [List.mem_singleton.mp hc]; exact la) fun c hc => by rw [List.mem_singleton.mp hc]; exact lb) (Nat.ne_of_lt la) (Nat.ne_of_lt (Nat.lt_succ_of_lt lb)), ⟨hz, hI, ⟨_, _, hO⟩, iterOb_at e1, iterOb_at e2⟩, fun c hc => ?_, q⟩
  have le : s1.heap.objs.size ≤ c := by
    simp only [List.mem_cons, List.not_mem_nil, or_false] at hc
    rcases hc with z | z | z | z | z <;> (rw [z]; first | exact Nat.le_add_right _ _ | exact Nat.le_refl _)
  exact I1.fpOk le (I1.hok.fresh le)
def enumD : Nat → List D → List D
  | _, [] => []
  | i, d :: ds => .tup [.int (i : Int), d] :: enumD (i + 1) ds
theorem enumD_len : ∀ (i : Nat) (ds : List D), (enumD i ds).length = ds.length
  | _, [] => rfl
  | i, d :: ds => congrArg Nat.succ (enumD_len (i + 1) ds)
theorem enumD_get : ∀ (i : Nat) (ds : List D) (k : Nat), (enumD i ds)[k]? = (ds[k]?).map fun d => .tup [.int ((i + k : Nat) : Int), d]
  | _, [], k => by simp [enumD]
  | i, d :: ds, 0 => by simp [enumD]
  | i, d :: ds, k + 1 => by
    show (enumD (i + 1) ds)[k]? = _
    rw [enumD_get (i + 1) ds k, List.getElem?_cons_succ, show i + 1 + k = i + (k + 1) by omega]
def zipD (ds es : List D) : List D := List.zipWith (fun a b => .tup [a, b]) ds es
theorem zipD_get (ds es : List D) (k : Nat) (d : D) (h : (zipD ds es)[k]? = some d) : ∃ a b, ds[k]? = some a ∧ es[k]? = some b ∧ d = .tup [a, b] := by
  unfold zipD at h
  rw [List.getElem?_zipWith] at h
  split at h
  · rename_i a b ha hb
    exact ⟨a, b, ha, hb, (Option.some.inj h).symm⟩
  · cases h
def wEnum (w : WA) : WI := fun δ R => w δ fun rs δ1 => keeps rs ∧ ∃ d ds, rs.map RD.d = [d] ∧ asS d = some ds ∧ R (enumD 0 ds) δ1
def wZip (w : WA) : WI := fun δ R => w δ fun rs δ1 => keeps rs ∧ ∃ d e ds es, rs.map RD.d = [d, e] ∧ asS d = some ds ∧ asS e = some es ∧ R (zipD ds es) δ1
section
variable {X : Cx} {G : Gx} {K : PySem.W.Frag} {E : Ent}
/-- what a data list stands for -/
theorem rep_seq {H : Hp} {M : List Addr} {v : V} {d : D} {ds : List D} (r : Rep K G (mask M H) v d) (e : asS d = some ds) : ∃ t a xs, v = .ref a ∧ SqB K H t a xs ∧ RepAll K G (mask M H) xs ds := by
  cases d <;> first | (cases e; done) | skip
  · cases e
    obtain ⟨a, xs, rfl, h, rr⟩ := r
    exact ⟨false, a, xs, rfl, SqL.of (mask_le _ _ h), rr⟩
  · cases e
    obtain ⟨a, xs, rfl, h, rr⟩ := r
    exact ⟨true, a, xs, rfl, same_t mask_le h, rr⟩
theorem seq_rep {H H' : Hp} {M : List Addr} {a : Addr} {t : Bool} {d : D} {ds : List D} {xs0 : List V} (h0 : Rep K G (mask M H) (.ref a) d) (e : asS d = some ds) (q0 : SqB K H t a xs0) (h : Rep K G (mask M H') (.ref a) d) (sm : ∀ o, H a = some o → H' a = some o) : True := trivial
/-- the kind of a data list -/
def kindD : D → Bool
  | .tup _ => true
  | _ => false
theorem rep_seqK {H : Hp} {M : List Addr} {a : Addr} {d : D} {ds : List D} (r : Rep K G (mask M H) (.ref a) d) (e : asS d = some ds) : ∃ xs, SqB K H (kindD d) a xs ∧ RepAll K G (mask M H) xs ds := by
  cases d <;> first | (cases e; done) | skip
  · cases e
    obtain ⟨a, xs, ea, h, rr⟩ := r
    cases ea
    exact ⟨xs, SqL.of (mask_le _ _ h), rr⟩
  · cases e
    obtain ⟨a, xs, ea, h, rr⟩ := r
    cases ea
    exact ⟨xs, same_t mask_le h, rr⟩
theorem rep_ref {H : Hp} {v : V} {d : D} {ds : List D} (r : Rep K G H v d) (e : asS d = some ds) : ∃ a, v = .ref a := by
  cases d <;> first | (cases e; done) | skip
  · obtain ⟨a, xs, rfl, _⟩ := r; exact ⟨a, rfl⟩
  · obtain ⟨a, xs, rfl, _⟩ := r; exact ⟨a, rfl⟩
theorem new_pair {M : List Addr} {H : Hp} {T : Addr} {x y : V} {d e : D} (al : ∀ a ∈ M, H a ≠ none) (hT : H T = none) (r1 : Rep K G (mask M H) x d) (r2 : Rep K G (mask M H) y e) : Same H (upd H T (.tup [x, y])) ∧ Rep K G (mask M (upd H T (.tup [x, y]))) (.ref T) (.tup [d, e]) := by
  have sm := same_new (o := .tup [x, y]) hT
  have m := mask_mono (M := M) sm
  refine ⟨sm, T, [x, y], rfl, SqT.of ?_, ⟨x, _, rfl, r1.mono m, ⟨y, _, rfl, r2.mono m, rfl⟩⟩⟩
  rw [mask_out fun z => al T z hT, upd_same]
theorem iterEn {a : Addr} {d : D} {ds : List D} (e : asS d = some ds) : IterOk K G [(.ref a, d)] (ItEn K (kindD d) a) (enumD 0 ds) := fun E am M σ δ H S hg => by
  obtain ⟨xs, hs, r⟩ := rep_seqK (S.gh _ (hg (.ref a, d) (by simp))) e
  refine ⟨fun i hi => ⟨xs, hs, by rw [r.length, ← enumD_len 0]; exact hi⟩, fun i y hy => ?_⟩
  rw [enumD_get] at hy
  obtain ⟨z, hz, rfl⟩ := Option.map_eq_some_iff.mp hy
  obtain ⟨x, hx, rx⟩ := r.get hz
  refine ⟨⟨xs, x, hs, hx⟩, fun v H' ⟨T, x', ev, hT, eH, hx'⟩ => ?_⟩
  have : x' = x := by have := hx' xs hs; rw [hx] at this; exact (Option.some.inj this).symm
  subst this ev eH
  rw [Nat.zero_add]
  exact new_pair S.al hT rfl rx
theorem iterZp {a b : Addr} {d e : D} {ds es : List D} (h1 : asS d = some ds) (h2 : asS e = some es) : IterOk K G [(.ref a, d), (.ref b, e)] (ItZp K (kindD d) (kindD e) a b) (zipD ds es) := fun E am M σ δ H S hg => by
  obtain ⟨xs, hs, r⟩ := rep_seqK (S.gh _ (hg (.ref a, d) (by simp))) h1
  obtain ⟨ys, hs', r'⟩ := rep_seqK (S.gh _ (hg (.ref b, e) (by simp))) h2
  have l1 := r.length
  have l2 := r'.length
  have lz : (zipD ds es).length = min ds.length es.length := by unfold zipD; rw [List.length_zipWith]
  refine ⟨fun i hi => ⟨xs, ys, hs, hs', by omega, by omega, by omega⟩, fun i y hy => ?_⟩
  obtain ⟨p, q, hp, hq, rfl⟩ := zipD_get ds es i y hy
  obtain ⟨x, hx, rx⟩ := r.get hp
  obtain ⟨z, hz, rz⟩ := r'.get hq
  refine ⟨⟨xs, ys, x, z, hs, hs', hx, hz⟩, fun v H' ⟨T, x', z', ev, hT, eH, hx', hz'⟩ => ?_⟩
  have e1 : x' = x := by have := hx' xs hs; rw [hx] at this; exact (Option.some.inj this).symm
  have e2 : z' = z := by have := hz' ys hs'; rw [hz] at this; exact (Option.some.inj this).symm
  subst e1 e2 ev eH
  exact new_pair S.al hT rx rz
variable {ta : TA} {wa : WA} {es : List Expr}
theorem sim_en (h : SimA K G E ta wa) : SimI K G E (iEn K ta) (wEnum wa) := fun am M σ δ H S Rd q R k =>
  h am M σ δ H S _ q _ fun vs rs δ1 H1 S1 e1 o1 rv ⟨hk, d, ds, hd, hs, hR⟩ => by
    have rr := rv.rep hk
    rw [hd] at rr
    obtain ⟨v, xs, rfl, r1, r2⟩ := rr
    have r2 : xs = [] := r2
    subst r2
    obtain ⟨a, rfl⟩ := rep_ref r1 hs
    obtain ⟨xs, hq, _⟩ := rep_seqK r1 hs
    refine ⟨kindD d, a, xs, rfl, hq, k _ _ [(.ref a, d)] δ1 H1 (S1.addgh _ fun p hp => ?_) e1 o1 (iterEn hs) hR⟩
    have : p = (V.ref a, d) := by simpa using hp
    subst this
    exact r1
theorem sim_zp (h : SimA K G E ta wa) : SimI K G E (iZp K ta) (wZip wa) := fun am M σ δ H S Rd q R k =>
  h am M σ δ H S _ q _ fun vs rs δ1 H1 S1 e1 o1 rv ⟨hk, d, e, ds, es, hd, hs, hs', hR⟩ => by
    have rr := rv.rep hk
    rw [hd] at rr
    obtain ⟨v, xs, rfl, r1, u, ys, rfl, r2, r3⟩ := rr
    have r3 : ys = [] := r3
    subst r3
    obtain ⟨a, rfl⟩ := rep_ref r1 hs
    obtain ⟨b, rfl⟩ := rep_ref r2 hs'
    obtain ⟨xs, hq, _⟩ := rep_seqK r1 hs
    obtain ⟨ys, hq', _⟩ := rep_seqK r2 hs'
    refine ⟨kindD d, kindD e, a, b, xs, ys, rfl, hq, hq', k _ _ [(.ref a, d), (.ref b, e)] δ1 H1 (S1.addgh _ fun p hp => ?_) e1 o1 (iterZp hs hs') hR⟩
    simp only [List.mem_cons, List.not_mem_nil, or_false] at hp
    rcases hp with z | z
    · rw [z]; exact r1
    · rw [z]; exact r2
theorem di_en (K : PySem.W.Frag) {a : Expr} {p pos tpos : Pos} {elts : List Expr} {kk : Nat} (hg : Gl X "enumerate") (hm : X.mg "enumerate" = none) (ha : DA X G [a] ta wa) (hs : starEach [a] X.env = [(false, eval a X.env)] := by rfl) (hK : X.K = K := by rfl) :
    DI X G (.Tuple elts kk tpos) (.Call (.Name "enumerate" p) [a] [] pos) (iEn K ta) (wEnum wa) := by
  subst hK
  exact ⟨pi_en hg hm ha.pa hs, fun E => sim_en (ha.sim E)⟩
theorem di_zp (K : PySem.W.Frag) {a b : Expr} {p pos tpos : Pos} {elts : List Expr} {kk : Nat} (hg : Gl X "zip") (hm : X.mg "zip" = none) (ha : DA X G [a, b] ta wa)
    (hs : starEach [a, b] X.env = (false, eval a X.env) :: starEach [b] X.env := by rfl) (hpl : (backTo pos (starEach [b] X.env)).any (·.1) = false := by rfl) (hK : X.K = K := by rfl) :
    DI X G (.Tuple elts kk tpos) (.Call (.Name "zip" p) [a, b] [] pos) (iZp K ta) (wZip wa) := by
  subst hK
  exact ⟨pi_zp hg hm ha.pa hs hpl, fun E => sim_zp (ha.sim E)⟩
end
def isSeq : D → (List D → Prop) → Prop
  | .lst ds, Q => Q ds
  | .tup ds, Q => Q ds
  | _, _ => False
@[simp] theorem isSeq_0 (ds : List D) (Q : List D → Prop) : isSeq (.lst ds) Q = Q ds := rfl
@[simp] theorem isSeq_1 (ds : List D) (Q : List D → Prop) : isSeq (.tup ds) Q = Q ds := rfl
theorem isSeq_eq (d : D) (Q : List D → Prop) : (∃ ds, asS d = some ds ∧ Q ds) = isSeq d Q := by
  cases d <;> simp [isSeq, asS]
def one1 : List RD → (D → Prop) → Prop
  | [a], Q => Q a.d
  | _, _ => False
def two2 : List RD → (D → D → Prop) → Prop
  | [a, b], Q => Q a.d b.d
  | _, _ => False
@[simp] theorem one1_0 (a : RD) (Q : D → Prop) : one1 [a] Q = Q a.d := rfl
@[simp] theorem two2_0 (a b : RD) (Q : D → D → Prop) : two2 [a, b] Q = Q a.d b.d := rfl
theorem one1_eq (rs : List RD) (Q : D → Prop) : (∃ d, rs.map RD.d = [d] ∧ Q d) = one1 rs Q := by
  match rs with
  | [] => simp [one1]
  | [a] => simp
  | a :: b :: r => simp [one1]
theorem two2_eq (rs : List RD) (Q : D → D → Prop) : (∃ d e, rs.map RD.d = [d, e] ∧ Q d e) = two2 rs Q := by
  match rs with
  | [] => simp [two2]
  | [a] => simp [two2]
  | [a, b] =>
    refine propext ⟨fun ⟨d, e, h, q⟩ => ?_, fun q => ⟨a.d, b.d, rfl, q⟩⟩
    have h : [a.d, b.d] = [d, e] := h
    cases h
    exact q
  | a :: b :: c :: r => simp [two2]
@[simp] theorem wEnum_eq (w : WA) (δ : St3) (R : List D → St3 → Prop) : wEnum w δ R = w δ fun rs δ1 => keeps rs ∧ one1 rs fun d => isSeq d fun ds => R (enumD 0 ds) δ1 := by
  unfold wEnum
  simp only [← isSeq_eq, ← one1_eq, exists_and_left]
@[simp] theorem wZip_eq (w : WA) (δ : St3) (R : List D → St3 → Prop) : wZip w δ R = w δ fun rs δ1 => keeps rs ∧ two2 rs fun d e => isSeq d fun ds => isSeq e fun es => R (zipD ds es) δ1 := by
  unfold wZip
  simp only [← isSeq_eq, ← two2_eq, exists_and_left]
end L3
namespace L3
open PySem PySem.Spec PyProof.Rows L2
abbrev WO := St3 → (Option Int → St3 → Prop) → Prop
@[simp] def wNoP : WO := fun δ Q => Q none δ
def isI : D → (Int → Prop) → Prop
  | .int i, Q => Q i
  | _, _ => False
@[simp] theorem isI_0 (i : Int) (Q : Int → Prop) : isI (.int i) Q = Q i := rfl
@[simp] def wP (w : WE) : WO := fun δ Q => w δ fun r δ1 => isI r.d fun i => Q (some i) δ1
def cutD (ds : List D) (lo hi : Option Int) : List D := (ds.drop (HT.sIx ds.length 0 lo)).take (HT.sIx ds.length ds.length hi - HT.sIx ds.length 0 lo)
def fSl (lo hi : Option Int) : F1
  | .lst ds, Q => Q (.fr (.lst (cutD ds lo hi)))
  | .tup ds, Q => Q (.sh (.tup (cutD ds lo hi)))
  | .str z, Q => z.length ≤ 16777216 ∧ Q (.sh (.str (cutS z lo hi)))
  | _, _ => False
@[simp] theorem fSl_0 (lo hi : Option Int) (ds : List D) (Q : RD → Prop) : fSl lo hi (.lst ds) Q = Q (.fr (.lst (cutD ds lo hi))) := rfl
@[simp] theorem fSl_1 (lo hi : Option Int) (ds : List D) (Q : RD → Prop) : fSl lo hi (.tup ds) Q = Q (.sh (.tup (cutD ds lo hi))) := rfl
@[simp] theorem fSl_2 (lo hi : Option Int) (z : Str) (Q : RD → Prop) : fSl lo hi (.str z) Q = (z.length ≤ 16777216 ∧ Q (.sh (.str (cutS z lo hi)))) := rfl
@[simp] def wSl (w : WE) (l h : WO) : WE := fun δ Q => w δ fun x δ1 => l δ1 fun lo δ2 => h δ2 fun hi δ3 => (x.bor → δ3.sl = δ1.sl) ∧ fSl lo hi x.d fun q => Q q δ3
def SimO (K : PySem.W.Frag) (G : Gx) (E : Ent) (to : TO) (w : WO) : Prop := ∀ (am : Nat → Addr) (M : List Addr) (σ : L2.St) (δ : St3) (H : Hp), SR K G E am M σ δ H → ∀ Qd : Option Int → St3 → Prop, w δ Qd → ∀ Q : Option Int → Hp → Prop,
  (∀ (o : Option Int) (δ' : St3) (H' : Hp), SR K G E am M σ δ' H' → Ext G am δ H H' → (∀ i, isOwn δ' i → isOwn δ i) → Qd o δ' → Q o H') → to σ H Q
structure DO (X : Cx) (G : Gx) (e : Option Expr) (to : TO) (w : WO) : Prop where
  po : PO X e to
  sim : ∀ E, SimO X.K G E to w
def rSlAll (K : PySem.W.Frag) : V → Option Int → Option Int → Hp → VK → Prop := fun x lo hi H Q => rSlL K x lo hi H Q ∨ (rSlA K x lo hi H Q ∨ rSlS x lo hi H Q)
section
variable {X : Cx} {G : Gx} {K : PySem.W.Frag} {E : Ent} {e : Expr} {te : TE} {we : WE} {lo hi : Option Expr} {tl th : TO} {wl wh : WO} {p2 pos : Pos}
theorem do_none : DO X G none tNoPart wNoP := ⟨po_none, fun _ am M σ δ H S Qd q Q k => k none δ H S .refl (fun _ z => z) q⟩
theorem do_some (h : DE X G e te we) : DO X G (some e) (tPart te) (wP we) := ⟨po_some h.pe, fun E am M σ δ H S Qd q Q k => h.sim E am M σ δ H S _ q _ fun v r δ1 H1 S1 e1 o1 rv q => by
  cases er : r.d <;> rw [er] at q <;> first | exact q.elim | skip
  have := rv.k.rb S1
  rw [er] at this
  exact ⟨_, this.int, k _ δ1 H1 S1 e1 o1 q⟩⟩
theorem RepAll.cut {H : Hp} {xs : List V} {ds : List D} (r : RepAll K G H xs ds) (lo hi : Option Int) : RepAll K G H (cutV xs lo hi) (cutD ds lo hi) := by
  unfold cutV cutD
  rw [r.length]
  exact (r.drop _).take _
theorem uns_sl (lo hi : Option Int) : UnS K G (fun x H Q => rSlAll K x lo hi H Q) (fSl lo hi) := fun M H x d al bx Qd h Q k => by
  cases d <;> first | exact h.elim | skip
  · obtain ⟨h1, h⟩ := h
    exact .inr (.inr ⟨_, bx.str, by rw [line16]; exact h1, k _ _ H (Same.refl _) rn_str h⟩)
  · obtain ⟨a, xs, rfl, ha, r⟩ := bx.lst
    exact .inl ⟨a, xs, rfl, SqL.of ha, fun p hp => k _ _ _ (same_new hp) (rn_lst hp (r.cut lo hi)) h⟩
  · rename_i ds
    have bb := bx
    obtain ⟨a, xs, rfl, ha, r⟩ := bx.tup
    refine .inr (.inl ⟨a, xs, rfl, ha, fun ⟨z1, z2⟩ => ?_, fun _ p hp => k _ _ _ (same_new hp) (rn_tup al hp (r.cut lo hi)) h⟩)
    have e : cutD ds lo hi = ds := by
      unfold cutD
      rw [← r.length, z1, z2, List.drop_zero, Nat.sub_zero, r.length]
      exact List.take_of_length_le (Nat.le_refl _)
    have h : Qd (.sh (.tup (cutD ds lo hi))) := h
    rw [e] at h
    exact k _ _ H (Same.refl _) (rn_sh bb.shT) h
theorem sim_sl (ha : SimE K G E te we) (hl : SimO K G E tl wl) (hh : SimO K G E th wh) : SimE K G E (tSl (rSlAll K) te tl th) (wSl we wl wh) := fun am M σ δ H S Qd q Q k =>
  ha am M σ δ H S _ q _ fun x rx δ1 H1 S1 e1 o1 v1 q => hl am M σ δ1 H1 S1 _ q _ fun lo δ2 H2 S2 e2 o2 q => hh am M σ δ2 H2 S2 _ q _ fun hi δ3 H3 S3 e3 o3 ⟨st, q⟩ => by
    have e23 := e2.trans o2 e3
    have bx := (v1.k.later (δ2 := δ3) S1 e23 st).rb S3
    exact uns_sl lo hi M H3 x _ S3.al bx _ q _ fun v q H4 sm rn hq => k v q δ3 H4 (S3.grow sm) ((e1.trans o1 e23).trans (fun i z => o1 i (o2 i (o3 i z))) (Ext.of (δ := δ3) sm)) (fun i z => o1 i (o2 i (o3 i z))) (rn.rv S3 sm) hq
theorem de_slice (K : PySem.W.Frag) (ha : DE X G e te we) (hl : DO X G lo tl wl) (hh : DO X G hi th wh) (hK : X.K = K := by rfl) : DE X G (.Subscript e (.Slice lo hi none p2) pos) (tSl (rSlAll K) te tl th) (wSl we wl wh) := by
  subst hK
  exact ⟨pe_slice (sl_list.or (sl_tupA.or sl_str)) ha.pe hl.po hh.po, fun E => sim_sl (ha.sim E) (hl.sim E) (hh.sim E)⟩
end
def tyIs : D → String → Option Bool
  | .non, t => some (t == "NoneType")
  | .bl _, t => some (t == "bool" || t == "int")
  | .int _, t => some (t == "int")
  | .str _, t => some (t == "str")
  | .lst _, t => some (t == "list")
  | .tup _, t => some (t == "tuple")
  | .dct _ _, t => some (t == "dict")
  | _, _ => none
def fIsI (t : String) : F1 := fun d Q => ∃ b, tyIs d t = some b ∧ Q (.sh (.bl b))
@[simp] theorem fIsI_bl (t : String) (i : Bool) (Q : RD → Prop) : fIsI t (.bl i) Q = Q (.sh (.bl (t == "bool" || t == "int"))) := by simp [fIsI, tyIs]
@[simp] theorem fIsI_int (t : String) (i : Int) (Q : RD → Prop) : fIsI t (.int i) Q = Q (.sh (.bl (t == "int"))) := by simp [fIsI, tyIs]
@[simp] theorem fIsI_str (t : String) (i : Str) (Q : RD → Prop) : fIsI t (.str i) Q = Q (.sh (.bl (t == "str"))) := by simp [fIsI, tyIs]
@[simp] theorem fIsI_lst (t : String) (i : List D) (Q : RD → Prop) : fIsI t (.lst i) Q = Q (.sh (.bl (t == "list"))) := by simp [fIsI, tyIs]
@[simp] theorem fIsI_tup (t : String) (i : List D) (Q : RD → Prop) : fIsI t (.tup i) Q = Q (.sh (.bl (t == "tuple"))) := by simp [fIsI, tyIs]
@[simp] theorem fIsI_non (t : String) (Q : RD → Prop) : fIsI t .non Q = Q (.sh (.bl (t == "NoneType"))) := by simp [fIsI, tyIs]
/-- the class's answers as the kit tells them -/
def goodT (t : String) : Prop := kitB "NoneType" t = some (t == "NoneType") ∧ kitB "bool" t = some (t == "bool" || t == "int") ∧ kitB "int" t = some (t == "int") ∧ kitB "str" t = some (t == "str") ∧ kitB "list" t = some (t == "list") ∧ kitB "tuple" t = some (t == "tuple") ∧ kitB "dict" t = some (t == "dict")
instance (t : String) : Decidable (goodT t) := inferInstanceAs (Decidable (_ ∧ _))
section
variable {X : Cx} {G : Gx} {K : PySem.W.Frag} {E : Ent} {e : Expr} {te : TE} {we : WE} {pos : Pos}
def tIsI (K : PySem.W.Frag) (t : String) (te : TE) : TE := tCB (rIsi K) (tCons te (tCons (tC (.ty t)) tNil))
theorem sim_isi {t : String} (hT : goodT t) (h : SimE K G E te we) : SimE K G E (tIsI K t te) (wUn (fIsI t) we) := fun am M σ δ H S Qd q Q k =>
  h am M σ δ H S _ q _ fun x r δ1 H1 S1 e1 o1 rv ⟨b, hb, q⟩ => by
    obtain ⟨g1, g2, g3, g4, g5, g6, g7⟩ := hT
    have bx := rv.k.rb S1
    have fin : ∀ a : String, TyX K H1 x (.type a) → kitB a t = some b → tIsI K t te σ H Q → True := fun _ _ _ _ => trivial
    suffices ∃ a : String, TyX K H1 x (.type a) ∧ kitB a t = some b by
      obtain ⟨a, ty, hk⟩ := this
      exact ⟨x, .ty t, .type a, .type t, b, rfl, .ty t, ty, kit_ty hk, k (.bl b) (.sh (.bl b)) δ1 H1 S1 e1 o1 rfl q⟩
    generalize r.d = d at hb bx
    cases d <;> simp only [tyIs] at hb <;> first | (cases hb; done) | skip
    · cases hb; rw [bx.non]; exact ⟨_, .base .non, g1⟩
    · cases hb; rw [bx.bl]; exact ⟨_, .base (.bl _), g2⟩
    · cases hb; rw [bx.int]; exact ⟨_, .base (.int _), g3⟩
    · cases hb; rw [bx.str]; exact ⟨_, .base (.str _), g4⟩
    · cases hb
      obtain ⟨p, xs, rfl, hp, _⟩ := bx.lst
      exact ⟨_, .base (.lst hp), g5⟩
    · cases hb
      obtain ⟨p, xs, rfl, hp, _⟩ := bx.tup
      rcases hp with (hp | ⟨o, hp⟩) | ⟨o, its, n, hk, hc, _⟩
      · exact ⟨_, .base (.tup hp), g6⟩
      · exact ⟨_, .fTuple hp, g6⟩
      · exact ⟨_, .kTuple hk hc, g6⟩
    · cases hb
      obtain ⟨p, xs, rfl, hp, _⟩ := bx.dct
      exact ⟨_, .base (.dK hp), g7⟩
theorem de_isi (K : PySem.W.Frag) {t : String} {xt : Str} {p pt : Pos} (hT : goodT t) (h : DE X G e te we) (hm : X.mg "isinstance" = none) (hmt : X.mg xt = none) (hvt : bootBuiltins xt = some (.type t)) (gl : Gl X "isinstance" := by rfl) (glt : Gl X xt := by rfl)
    (hv : bootBuiltins "isinstance" = some (.builtin "isinstance") := by decide +kernel) (hnt : xt ≠ "__name__" := by decide) (hdt : (xt == ("__debug__" : Str)) = false := by decide)
    (hs : starEach [e, .Name xt pt] X.env = (false, eval e X.env) :: starEach [.Name xt pt] X.env := by rfl) (hs2 : starEach [.Name xt pt] X.env = (false, eval (.Name xt pt) X.env) :: starEach [] X.env := by rfl)
    (hpl : (backTo pos (starEach [.Name xt pt] X.env)).any (·.1) = false := by rfl) (hK : X.K = K := by rfl) :
    DE X G (.Call (.Name "isinstance" p) [e, .Name xt pt] [] pos) (tIsI K t te) (wUn (fIsI t) we) := by
  subst hK
  exact ⟨pe_callB call_isi gl hm hv (pa_cons h.pe (pa_cons (pe_bltn glt hmt hvt rfl hnt hdt) pa_nil hs2) hs) (by decide) (by decide) hs hpl, fun E => sim_isi hT (h.sim E)⟩
end
def fSum : FC := fun ds Q => ∃ ns : List Int, ds = [.lst (ns.map D.int)] ∧ Q (.sh (.int ns.sum))
def fMax : FC := fun ds Q => ∃ ns : List Int, ds = [.lst (ns.map D.int)] ∧ ns ≠ [] ∧ ∀ m, m ∈ ns → (∀ y ∈ ns, y ≤ m) → Q (.sh (.int m))
def fMin : FC := fun ds Q => ∃ ns : List Int, ds = [.lst (ns.map D.int)] ∧ ns ≠ [] ∧ ∀ m, m ∈ ns → (∀ y ∈ ns, m ≤ y) → Q (.sh (.int m))
def fSorted : FC := fun ds Q => ∃ ns : List Int, ds = [.lst (ns.map D.int)] ∧ ∀ ns' : List Int, ns'.Perm ns → ns'.Pairwise (· ≤ ·) → Q (.fr (.lst (ns'.map D.int)))
def fAll : FC := fun ds Q => ∃ bs : List Bool, ds = [.lst (bs.map D.bl)] ∧ Q (.sh (.bl (bs.all id)))
def fAny : FC := fun ds Q => ∃ bs : List Bool, ds = [.lst (bs.map D.bl)] ∧ Q (.sh (.bl (bs.any id)))
section
variable {X : Cx} {G : Gx} {K : PySem.W.Frag}
theorem lst1 {M : List Addr} {H : Hp} {vs : List V} {ns : List Int} (b : RBs K G M H vs [.lst (ns.map D.int)]) : ∃ p, vs = [.ref p] ∧ SqL K H p (ns.map V.int) := by
  obtain ⟨v, rfl, b1⟩ := b.one
  obtain ⟨p, xs, rfl, hp, r⟩ := b1.lst
  rw [r.ints] at hp
  exact ⟨p, rfl, SqL.of hp⟩
theorem lst1b {M : List Addr} {H : Hp} {vs : List V} {ns : List Bool} (b : RBs K G M H vs [.lst (ns.map D.bl)]) : ∃ p, vs = [.ref p] ∧ SqL K H p (ns.map V.bl) := by
  obtain ⟨v, rfl, b1⟩ := b.one
  obtain ⟨p, xs, rfl, hp, r⟩ := b1.lst
  rw [r.bls] at hp
  exact ⟨p, rfl, SqL.of hp⟩
theorem calls_sum : CallS K G (rSum K) fSum := fun M H vs ds al b Qd h Q k => by
  obtain ⟨ns, rfl, h⟩ := h
  obtain ⟨p, rfl, hp⟩ := lst1 b
  exact ⟨p, ns, rfl, hp, k _ _ H (Same.refl _) rn_int h⟩
theorem calls_max : CallS K G (rMax K) fMax := fun M H vs ds al b Qd h Q k => by
  obtain ⟨ns, rfl, h0, h⟩ := h
  obtain ⟨p, rfl, hp⟩ := lst1 b
  exact ⟨p, ns, rfl, hp, List.length_pos_iff.mpr h0, fun m hm hy => k _ _ H (Same.refl _) rn_int (h m hm hy)⟩
theorem calls_min : CallS K G (rMin K) fMin := fun M H vs ds al b Qd h Q k => by
  obtain ⟨ns, rfl, h0, h⟩ := h
  obtain ⟨p, rfl, hp⟩ := lst1 b
  exact ⟨p, ns, rfl, hp, List.length_pos_iff.mpr h0, fun m hm hy => k _ _ H (Same.refl _) rn_int (h m hm hy)⟩
theorem calls_sorted : CallS K G (rSortedI K) fSorted := fun M H vs ds al b Qd h Q k => by
  obtain ⟨ns, rfl, h⟩ := h
  obtain ⟨p, rfl, hp⟩ := lst1 b
  exact ⟨p, ns, rfl, hp, fun ns' q pm st hq => k _ _ _ (same_new hq) (rn_lst hq (RepAll.of_ints ns')) (h ns' pm st)⟩
theorem calls_all : CallS K G (rAll K) fAll := fun M H vs ds al b Qd h Q k => by
  obtain ⟨ns, rfl, h⟩ := h
  obtain ⟨p, rfl, hp⟩ := lst1b b
  exact ⟨p, ns, rfl, hp, k _ _ H (Same.refl _) rn_bl h⟩
theorem calls_any : CallS K G (rAny K) fAny := fun M H vs ds al b Qd h Q k => by
  obtain ⟨ns, rfl, h⟩ := h
  obtain ⟨p, rfl, hp⟩ := lst1b b
  exact ⟨p, ns, rfl, hp, k _ _ H (Same.refl _) rn_bl h⟩
theorem call_sumK (K : PySem.W.Frag) (hc : X.calm = true) (hK : X.K = K := by rfl) : CallR X (.builtin "sum") (rSum K) := by subst hK; exact cr_sum hc
theorem call_maxK (K : PySem.W.Frag) (hc : X.calm = true) (hK : X.K = K := by rfl) : CallR X (.builtin "max") (rMax K) := by subst hK; exact cr_max hc
theorem call_minK (K : PySem.W.Frag) (hc : X.calm = true) (hK : X.K = K := by rfl) : CallR X (.builtin "min") (rMin K) := by subst hK; exact cr_min hc
theorem call_sortedK (K : PySem.W.Frag) (hK : X.K = K := by rfl) : CallR X (.builtin "sorted") (rSortedI K) := by subst hK; exact cr_sortedI
theorem call_allK (K : PySem.W.Frag) (hc : X.calm = true) (hK : X.K = K := by rfl) : CallR X (.builtin "all") (rAll K) := by subst hK; exact cr_all hc
theorem call_anyK (K : PySem.W.Frag) (hc : X.calm = true) (hK : X.K = K := by rfl) : CallR X (.builtin "any") (rAny K) := by subst hK; exact cr_any hc
end
@[simp] def wLRg1 (w : WE) : WE := fun δ Q => w δ fun r δ1 => isI r.d fun n => n ≤ 16777216 ∧ -(2 ^ 62) ≤ n ∧ Q (.fr (.lst (rng 0 n.toNat))) δ1
@[simp] def wTRg1 (w : WE) : WE := fun δ Q => w δ fun r δ1 => isI r.d fun n => n ≤ 16777216 ∧ -(2 ^ 62) ≤ n ∧ Q (.sh (.tup (rng 0 n.toNat))) δ1
@[simp] def wLRg2 (a b : WE) : WE := fun δ Q => a δ fun r δ1 => b δ1 fun s δ2 => (r.bor → δ2.sl = δ1.sl) ∧ isI r.d fun i => isI s.d fun j => RgOk i j ∧ Q (.fr (.lst (rng i (j - i).toNat))) δ2
@[simp] def wTRg2 (a b : WE) : WE := fun δ Q => a δ fun r δ1 => b δ1 fun s δ2 => (r.bor → δ2.sl = δ1.sl) ∧ isI r.d fun i => isI s.d fun j => RgOk i j ∧ Q (.sh (.tup (rng i (j - i).toNat))) δ2
section
variable {X : Cx} {G : Gx} {K : PySem.W.Frag} {E : Ent} {a b : Expr} {ta tb : TE} {wa wb : WE} {p p2 pos pos2 : Pos}
theorem rep_rg {H : Hp} (i j : Int) : RepAll K G H (rgV i j) (rng i (j - i).toNat) := by
  unfold rgV rng
  have key : ∀ (n : Nat) (f : Nat → Int), RepAll K G H ((List.range n).map fun k => V.int (f k)) ((List.range n).map fun k => D.int (f k)) := fun n f => by
    have := RepAll.of_ints (K := K) (G := G) (H := H) ((List.range n).map f)
    rw [List.map_map, List.map_map] at this
    exact this
  exact key _ _
theorem isI_of {am : Nat → Addr} {M : List Addr} {σ : L2.St} {δ : St3} {H : Hp} {v : V} {r : RD} {Q : Int → Prop} (S : SR K G E am M σ δ H) (rv : RK K G am M δ H v r) (q : isI r.d Q) : ∃ i, r.d = .int i ∧ v = .int i ∧ Q i := by
  have rb := rv.rb S
  generalize r.d = d at q rb
  cases d <;> first | exact q.elim | skip
  exact ⟨_, rfl, rb.int, q⟩
theorem de_lrg1 (ha : DE X G a ta wa) (hm : X.mg "list" = none) (hm2 : X.mg "range" = none) (hc : X.calm = true := by rfl) (g1 : Gl X "list" := by rfl) (g2 : Gl X "range" := by rfl) (na : starEach [a] X.env = (false, eval a X.env) :: starEach [] X.env := by rfl)
    (nr : starEach [.Call (.Name "range" p) [a] [] pos] X.env = (false, eval (.Call (.Name "range" p) [a] [] pos) X.env) :: starEach [] X.env := by rfl) :
    DE X G (.Call (.Name "list" p2) [.Call (.Name "range" p) [a] [] pos] [] pos2) (tLstRg (tRg1 ta)) (wLRg1 wa) := ⟨pe_listRg hc g1 hm (prg_1 g2 hm2 ha.pe na) nr, fun E am M σ δ H S Qd q Q k => ha.sim E am M σ δ H S _ q _ fun v r δ1 H1 S1 e1 o1 rv q => by
  obtain ⟨n, _, rfl, h1, h2, q⟩ := isI_of S1 rv.k q
  refine ⟨n, rfl, ⟨by omega, by omega, by omega, by omega, by omega⟩, fun l hl => ?_⟩
  have sm := same_new (o := .lst (rgV 0 n)) hl
  have rr : RN X.K G M H1 (upd H1 l (.lst (rgV 0 n))) (.ref l) (.fr (.lst (rng 0 n.toNat))) := by
    have := rep_rg (K := X.K) (G := G) (H := mask M H1) 0 n
    rw [Int.sub_zero] at this
    exact rn_lst hl this
  exact k _ _ δ1 _ (S1.grow sm) (e1.trans o1 (Ext.of (δ := δ1) sm)) o1 (rr.rv S1 sm) q⟩
theorem de_trg1 (ha : DE X G a ta wa) (hm : X.mg "tuple" = none) (hm2 : X.mg "range" = none) (hc : X.calm = true := by rfl) (g1 : Gl X "tuple" := by rfl) (g2 : Gl X "range" := by rfl) (na : starEach [a] X.env = (false, eval a X.env) :: starEach [] X.env := by rfl)
    (nr : starEach [.Call (.Name "range" p) [a] [] pos] X.env = (false, eval (.Call (.Name "range" p) [a] [] pos) X.env) :: starEach [] X.env := by rfl) :
    DE X G (.Call (.Name "tuple" p2) [.Call (.Name "range" p) [a] [] pos] [] pos2) (tTupRg (tRg1 ta)) (wTRg1 wa) := ⟨pe_tupRg hc g1 hm (prg_1 g2 hm2 ha.pe na) nr, fun E am M σ δ H S Qd q Q k => ha.sim E am M σ δ H S _ q _ fun v r δ1 H1 S1 e1 o1 rv q => by
  obtain ⟨n, _, rfl, h1, h2, q⟩ := isI_of S1 rv.k q
  refine ⟨n, rfl, ⟨by omega, by omega, by omega, by omega, by omega⟩, fun l hl => ?_⟩
  have sm := same_new (o := .tup (rgV 0 n)) hl
  have rr : RN X.K G M H1 (upd H1 l (.tup (rgV 0 n))) (.ref l) (.sh (.tup (rng 0 n.toNat))) := by
    have := rep_rg (K := X.K) (G := G) (H := mask M H1) 0 n
    rw [Int.sub_zero] at this
    exact rn_tup S1.al hl this
  exact k _ _ δ1 _ (S1.grow sm) (e1.trans o1 (Ext.of (δ := δ1) sm)) o1 (rr.rv S1 sm) q⟩
end
end L3
namespace L3
open PySem PySem.Spec PyProof.Rows L2
def kGreat : Key := Sum.inr "great"
def kMixed : Key := Sum.inr "mixed"
theorem k_gm : kGreat ≠ kMixed := by decide +kernel
def dgv (c : Addr) (b : Int) : List (Key × V) := [(kGreat, .ref c), (kMixed, .int b)]
theorem dgv_g {c : Addr} {b : Int} : valV (dgv c b) kGreat = some (.ref c) := valV_pos rfl
theorem dgv_m {c : Addr} {b : Int} : valV (dgv c b) kMixed = some (.int b) := (valV_neg k_gm).trans (valV_pos rfl)
theorem dgv_put {c : Addr} {b u : Int} : putK (dgv c b) kMixed (.int u) = dgv c u := by
  unfold putK
  rw [valV_any, dgv_m, if_pos (show (some (V.int b)).isSome = true from rfl)]
  show [if kGreat = kMixed then (kGreat, V.int u) else (kGreat, .ref c), if kMixed = kMixed then (kMixed, V.int u) else (kMixed, .int b)] = _
  rw [if_neg k_gm, if_pos rfl]
  all_goals rfl
def DkG (p c : Addr) (H : Hp) : Prop := ∃ (ns : List Int) (b : Int), H p = some (.dK (dgv c b)) ∧ H c = some (.lst (ns.map V.int)) ∧ ns.length ≤ 63 ∧ 0 ≤ b ∧ b < 2147483587
def GB (cls : Nat → Addr) (fld : Nat → List Str) (p c : Addr) : Gx where
  cls := cls
  fld := fld
  deck := p
  dk := [p, c]
  DI := fun _ H => DkG p c H
  frame := fun n H H' h ⟨ns, b, h1, h2, h3⟩ => ⟨ns, b, h p (by simp) _ h1, h c (by simp) _ h2, h3⟩
  dal := fun n H ⟨ns, b, h1, h2, _⟩ a ha => by
    have ha : a = p ∨ a = c := by simpa using ha
    rcases ha with z | z
    · rw [z, h1]; simp
    · rw [z, h2]; simp
def CdrawB : Con := fun ds n Q => ∃ m : Int, ds = [.deck, .int m] ∧ 1 ≤ m ∧ m.natAbs.log2 < 9000 ∧ ∀ r : Int, 0 ≤ r → r < m → Q (.int r) n
theorem drawB_le {n : Nat} {m : Int} {Q : D → Nat → Prop} (h1 : 1 ≤ m) (hs : Sz 8999 m) (q : ∀ r : Int, 0 ≤ r → r < m → Q (.int r) n) : CdrawB [.deck, .int m] n Q := ⟨m, rfl, h1, hs.log (by omega) (by omega), q⟩
def CpickB : Con := fun ds n Q => ∃ xs : List D, (ds = [.deck, .lst xs] ∨ ds = [.deck, .tup xs]) ∧ xs ≠ [] ∧ xs.length ≤ 1000 ∧ ∀ x ∈ xs, Q x n
theorem pickB_ints {n : Nat} {xs : List D} {Q : D → Nat → Prop} (P : Int → Prop) (h0 : xs ≠ []) (hl : xs.length ≤ 1000) (hP : ∀ x ∈ xs, ∃ i, x = .int i ∧ P i) (q : ∀ i : Int, P i → Q (.int i) n) : CpickB [.deck, .lst xs] n Q :=
  ⟨xs, .inl rfl, h0, hl, fun x hx => by obtain ⟨i, rfl, hi⟩ := hP x hx; exact q i hi⟩
section
variable {K : PySem.W.Frag} {cls : Nat → Addr} {fld : Nat → List Str}
abbrev tGt : TE := tDGet (tVar 0) (tC (.str "great"))
def tDrawB2 : TS :=
  tSeq (sDPut (tVar 0) (tC (.str "mixed")) (tVar 3))
  (tSeq (tAsg (tModN (tInt1 (tCons (tAddI (tMulI (tVar 3) (tVar 3)) (tMulI (tC (.int 39373)) (tVar 3))) tNil)) (tC (.int 2147483579))) (gName 3))
  (tRet (tModN (tOp (rI CDivA fun i j => .int (i.fdiv j)) (tVar 3) (tC (.int 64))) (tVar 1))))
def tDrawB (K : PySem.W.Frag) (k1 : Int) : TS :=
  tSeq (tIfS (tTest (tOp (rNeD K) tGt (tLst tNil)))
    (tSeq (tAsg (tInt1 (tCons (tBM0 K "list" rPop tGt) tNil)) (gName 2))
    (tSeq (tIfS (tTest (tOp (rI0 fun i j => .bl (decide (j ≤ i))) (tVar 2) (tVar 1))) (tDrop (tBM K "list" rAppend tGt (tCons (tOp (rI CDivA fun i j => .int (i.fdiv j)) (tVar 2) (tVar 1)) tNil))) tNext)
    (tRet (tModN (tVar 2) (tVar 1))))) tNext)
  (tSeq (tAsg (tModN (tInt1 (tCons (tAddI (tMulI (tInt1 (tCons (tDGet (tVar 0) (tC (.str "mixed"))) tNil)) (tC (.int 69621))) (tC (.int k1))) tNil)) (tC (.int 2147483587))) (gName 3)) tDrawB2)
theorem rd_drawB {k1 : Int} {N : List Str} {vs : List V} {H : Hp} {Q : VK} {Ex : XK} (hN : N.length = 4) (h : lift K (GB cls fld) CdrawB vs H Q Ex) : tDrawB K k1 { nx := fun _ H' => Q .non H', rt := Q } (L2.start N vs) H := by
  obtain ⟨p, c, ads, ds, n, Qd, hk, ha, di, r, ⟨m, rfl, m1, m2, hq⟩, q⟩ := h
  obtain ⟨x, xs, rfl, e1, y, ys, rfl, e2, e3⟩ := r
  have e1 : x = .ref p := e1
  have e2 : y = .int m := e2
  have e3 : ys = [] := e3
  subst e1 e2 e3
  obtain ⟨ns, b, h1, h2, hl, b0, b1⟩ := di
  have pc : p ≠ c := ne_of h1 h2 (by intro z; cases z)
  have st : L2.start N [.ref p, .int m] = [some (.ref p), some (.int m), none, none] := by
    unfold L2.start
    rw [show N.length - ([V.ref p, V.int m] : List V).length = 2 by simp [hN]]
    rfl
  rw [st]
  have gg : ∀ {H : Hp} {b : Int}, H p = some (.dK (dgv c b)) → DGet H p (.str "great") (some (.ref c)) := fun h => by
    have := DGet.k (k := kGreat) h; rw [dgv_g] at this; exact this
  have gm : ∀ {H : Hp} {b : Int}, H p = some (.dK (dgv c b)) → DGet H p (.str "mixed") (some (.int b)) := fun h => by
    have := DGet.k (k := kMixed) h; rw [dgv_m] at this; exact this
  have m0 : m ≠ 0 := by omega
  refine ⟨.ref p, rfl, p, .ref c, rfl, gg h1, Nat.zero_le _, fun l hl0 => ?_⟩
  have lp : p ≠ l := ne_of_none h1 hl0
  have lc : c ≠ l := ne_of_none h2 hl0
  have f1 : upd H l (.lst []) p = some (.dK (dgv c b)) := by rw [upd_ne lp]; exact h1
  have f2 : upd H l (.lst []) c = some (.lst (ns.map V.int)) := by rw [upd_ne lc]; exact h2
  have f0 : ∀ x o, H x = some o → x ∉ [p, c] → upd H l (.lst []) x = some o := fun x o hx hn => by
    rw [upd_ne (ne_of_none hx hl0)]; exact hx
  refine ⟨.list (ns.map PyData.int), .list [], .lst (SqL.of f2) (dp_ints ns), .lst (SqL.of upd_same) .nil, shaped_ints ns, rfl, _, rfl, ?_⟩
  rw [eqv_ints_nil]
  cases hns : ns with
  | nil =>
    rw [hns] at f2
    rw [if_neg (show ¬ (!([] : List Int).isEmpty) = true from Bool.false_ne_true)]
    -- the mixed number
    have c1 : CMul b 69621 := .inr ⟨by omega, by omega⟩
    refine ⟨.ref p, rfl, p, .int b, rfl, gm f1, .inl ⟨b, rfl, b, 69621, rfl, rfl, c1, _, _, rfl, rfl, .inl ⟨_, rfl, _, 2147483587, rfl, rfl, (show (2147483587 : Int) ≠ 0 by decide), ?_⟩⟩⟩
    suffices key : ∀ z : Int, 0 ≤ z → z < 2147483587 → tDrawB2 { nx := fun _ H' => Q .non H', rt := Q } [some (.ref p), some (.int m), none, some (.int z)] (upd H l (.lst [])) by
      exact key _ (Int.fmod_nonneg_of_pos (b * 69621 + k1) (by decide)) (Int.fmod_lt_of_pos (b * 69621 + k1) (by decide))
    intro z z0 z1
    refine ⟨.int z, rfl, .ref p, rfl, p, _, rfl, DPut.k (k := kMixed) f1 (small1000 (by show 2 ≤ 1000; omega)), ?_⟩
    rw [dgv_put]
    refine ⟨.int z, rfl, .int z, rfl, z, z, rfl, rfl, .inl ⟨by omega, by omega⟩, .int z, rfl, 39373, z, rfl, rfl, .inl ⟨by omega, by omega⟩, _, _, rfl, rfl, .inl ⟨_, rfl, _, 2147483579, rfl, rfl, (show (2147483579 : Int) ≠ 0 by decide), ?_⟩⟩
    refine ⟨_, rfl, _, 64, rfl, rfl, ⟨by decide, by decide⟩, .int m, rfl, _, m, rfl, rfl, m0, ?_⟩
    refine q _ (.int (Int.fmod _ m)) n _ (fun x o hx hn => ?_) ⟨[], z, upd_same, ?_, Nat.zero_le _, z0, z1⟩ rfl (hq _ (Int.fmod_nonneg_of_pos _ (by omega)) (Int.fmod_lt_of_pos _ (by omega)))
    · rw [upd_ne fun w => hn (by show x ∈ [p, c]; simp [w])]; exact f0 x o hx hn
    · rw [upd_ne pc.symm]; exact f2
  | cons n0 ns0 =>
    rw [if_pos (show (!(n0 :: ns0).isEmpty) = true from rfl)]
    rw [hns] at f2 hl
    obtain ⟨ms, z, ez⟩ : ∃ ms z, n0 :: ns0 = ms ++ [z] := ⟨(n0 :: ns0).dropLast, (n0 :: ns0).getLast (List.cons_ne_nil _ _), (List.dropLast_concat_getLast _).symm⟩
    rw [ez] at f2 hl
    have em : (ms ++ [z]).map V.int = ms.map V.int ++ [V.int z] := by rw [List.map_append]; rfl
    rw [em] at f2
    have lm : ms.length ≤ 62 := by rw [List.length_append] at hl; simp at hl; omega
    refine ⟨.ref p, rfl, p, .ref c, rfl, gg f1, .inl ⟨rfl, _, SqL.of f2⟩, c, _, .int z, rfl, rfl, f2, by simp, ?_⟩
    rw [List.dropLast_concat]
    refine .inl ⟨z, rfl, ?_⟩
    have u1 : upd (upd H l (.lst [])) c (.lst (ms.map V.int)) p = some (.dK (dgv c b)) := by rw [upd_ne pc]; exact f1
    have u0 : ∀ (o' : HO) x o, H x = some o → x ∉ [p, c] → upd (upd H l (.lst [])) c o' x = some o := fun o' x o hx hn => by
      rw [upd_ne fun w => hn (by simp [w])]; exact f0 x o hx hn
    have fin : ∀ (H' : Hp) (ks : List Int), H' p = some (.dK (dgv c b)) → H' c = some (.lst (ks.map V.int)) → ks.length ≤ 63 → (∀ x o, H x = some o → x ∉ [p, c] → H' x = some o) → Q (.int (z.fmod m)) H' := fun H' ks g1 g2 g3 g4 =>
      q _ (.int (z.fmod m)) n _ g4 ⟨ks, b, g1, g2, g3, b0, b1⟩ rfl (hq _ (Int.fmod_nonneg_of_pos _ (by omega)) (Int.fmod_lt_of_pos _ (by omega)))
    refine ⟨.int z, rfl, .int m, rfl, z, m, rfl, rfl, _, rfl, ite2 (fun _ => ?_) (fun _ => ?_)⟩
    · refine ⟨.ref p, rfl, p, .ref c, rfl, gg u1, .inl ⟨rfl, _, SqL.of upd_same⟩, .int z, rfl, .int m, rfl, z, m, rfl, rfl, ⟨m0, m2⟩, c, _, _, rfl, rfl, upd_same, ?_, ?_⟩
      · rw [List.length_map]; exact small1000 (by omega)
      · refine ⟨.int z, rfl, .int m, rfl, z, m, rfl, rfl, m0, ?_⟩
        have um : (upd (upd (upd H l (.lst [])) c (.lst (ms.map V.int))) c (.lst (ms.map V.int ++ [V.int (z.fdiv m)]))) = upd (upd H l (.lst [])) c (.lst (ms.map V.int ++ [V.int (z.fdiv m)])) := upd_upd
        rw [um]
        refine fin _ (ms ++ [z.fdiv m]) ?_ ?_ ?_ (u0 _)
        · rw [upd_ne pc]; exact f1
        · rw [upd_same, List.map_append]; rfl
        · rw [List.length_append]; simp; omega
    · refine ⟨.int z, rfl, .int m, rfl, z, m, rfl, rfl, m0, ?_⟩
      exact fin _ ms u1 upd_same (by omega) (u0 _)
end
end L3
namespace L3
open PySem PySem.Spec PyProof.Rows L2
section
variable {K : PySem.W.Frag} {cls : Nat → Addr} {fld : Nat → List Str}
abbrev tCut (K : PySem.W.Frag) : TE := tSl (rSlL K) (tVar 0) tNoPart (tPart (tC (.int 63)))
def tDeckB (K : PySem.W.Frag) (c0 k1 : Int) : TS :=
  tSeq (tAsg (tC (.int c0)) (gName 1))
  (tSeq (tFor (iList K (tCut K)) (gName 2) (tAsg (tModN (tInt1 (tCons (tAddI (tAddI (tMulI (tVar 1) (tC (.int 48271))) (tModN (tInt1 (tCons (tVar 2) tNil)) (tC (.int 2147483629)))) (tC (.int k1))) tNil)) (tC (.int 2147483587))) (gName 1)))
  (tRet (tDisp [(tC (.str "great"), tRevL K (tLc (iList K (tCut K)) (gName 2) (tTest (tOp (rI0 fun i j => .bl (decide (j ≤ i))) (tVar 2) (tOp (rI CPow fun i j => .int (i ^ j.toNat)) (tC (.int 10)) (tC (.int 18))))) (tVar 2) [2])), (tC (.str "mixed"), tVar 1)])))
def spDeckG (K : PySem.W.Frag) : Sp := fun vs H Q _ => ∃ (a : Addr) (ns : List Int), vs = [.ref a] ∧ SqL K H a (ns.map V.int) ∧ ns.length ≤ 63 ∧
  ∀ (p c : Addr) (H' : Hp), Same H H' → DkG p c H' → H p = none → H c = none → Q (.ref p) H'
theorem merge_dgv {q : Addr} {b : Int} : mergeK [] (dgv q b) = dgv q b := by
  show putK (putK [] kGreat (.ref q)) kMixed (.int b) = _
  have e1 : putK ([] : List (Key × V)) kGreat (.ref q) = [(kGreat, .ref q)] := putK_new _ rfl
  have e2 : putK [(kGreat, V.ref q)] kMixed (.int b) = [(kGreat, .ref q), (kMixed, .int b)] := putK_new _ ((valV_neg k_gm).trans rfl)
  rw [e1, e2]
  all_goals rfl
theorem sq_same {H H' : Hp} {a : Addr} {xs : List V} (e : Same H H') (h : SqL K H a xs) : SqL K H' a xs := by
  rcases h with (h | ⟨o, h⟩) | h
  · exact .inl (.inl (e _ _ h))
  · exact .inl (.inr ⟨o, e _ _ h⟩)
  · exact .inr h
theorem rd_deckB {c0 k1 : Int} {N : List Str} {vs : List V} {H : Hp} {Q : VK} {Ex : XK} (hN : N.length = 3) (hc0 : 0 ≤ c0 ∧ c0 < 2147483587) (h : spDeckG K vs H Q Ex) : tDeckB K c0 k1 { nx := fun _ H' => Q .non H', rt := Q } (L2.start N vs) H := by
  obtain ⟨a, ns, rfl, hS, hl, q⟩ := h
  have st : L2.start N [.ref a] = [some (.ref a), none, none] := by
    unfold L2.start
    rw [show N.length - ([V.ref a] : List V).length = 2 by simp [hN]]
    rfl
  rw [st]
  have ecut : cutV (ns.map V.int) none (some 63) = ns.map V.int := by
    unfold cutV
    rw [HT.sIx_none, show HT.sIx (ns.map V.int).length (ns.map V.int).length (some 63) = min 63 (ns.map V.int).length from HT.sIx_nat _ _ 63, List.length_map, Nat.sub_zero, List.drop_zero]
    exact List.take_of_length_le (by rw [List.length_map]; omega)
  refine ⟨.ref a, rfl, 63, rfl, a, _, rfl, hS, fun l hl0 => ?_⟩
  rw [ecut]
  have s2 := same_new (o := .lst (ns.map V.int)) hl0
  have hlst : upd H l (.lst (ns.map V.int)) l = some (.lst (ns.map V.int)) := upd_same
  refine ⟨l, rfl, ⟨_, SqL.of hlst⟩, for_list (K := K) (a := l) (xs := ns.map V.int) (fun i σ H3 => ∃ (b : Int) (x : Option V), σ = [some (.ref a), some (.int b), x] ∧ H3 = upd H l (.lst (ns.map V.int)) ∧ 0 ≤ b ∧ b < 2147483587)
    ⟨c0, none, rfl, rfl, hc0⟩ (fun i σ H3 _ ⟨_, _, _, e, _⟩ => by rw [e]; exact SqL.of hlst) ?_ ?_⟩
  · rintro i x σ H3 hx ⟨b, y, rfl, rfl, b0, b1⟩
    obtain ⟨z, rfl⟩ : ∃ z, x = V.int z := by
      rw [List.getElem?_map] at hx
      cases e : ns[i]? with
      | none => rw [e] at hx; cases hx
      | some z => rw [e] at hx; exact ⟨z, (Option.some.inj hx).symm⟩
    refine ⟨.int b, rfl, b, 48271, rfl, rfl, .inl ⟨by omega, by omega⟩, .int z, rfl, .inl ⟨z, rfl, z, 2147483629, rfl, rfl, (show (2147483629 : Int) ≠ 0 by decide), _, _, rfl, rfl, _, _, rfl, rfl, .inl ⟨_, rfl, _, 2147483587, rfl, rfl, (show (2147483587 : Int) ≠ 0 by decide), ?_⟩⟩⟩
    exact ⟨_, _, rfl, rfl, Int.fmod_nonneg_of_pos _ (by decide), Int.fmod_lt_of_pos _ (by decide)⟩
  · rintro σ H3 ⟨b, y, rfl, rfl, b0, b1⟩
    intro p hp
    have sp := s2.trans (same_new (o := .dK []) hp)
    -- the slice again
    refine ⟨.ref a, rfl, 63, rfl, a, _, rfl, sq_same sp hS, fun l2 hl2 => ?_⟩
    rw [ecut]
    have h2 : upd (upd (upd H l (.lst (ns.map V.int))) p (.dK [])) l2 (.lst (ns.map V.int)) l2 = some (.lst (ns.map V.int)) := upd_same
    have sl := sp.trans (same_new (o := .lst (ns.map V.int)) hl2)
    have pl2 : p ≠ l2 := ne_of_none (H := upd _ p (.dK [])) upd_same hl2
    refine ⟨l2, rfl, ⟨_, SqL.of h2⟩, fun D hD => lc_list (K := K) (a := l2) (xs := ns.map V.int) (fun i H5 => ∃ ms : List Int, ms.length ≤ i ∧ H5 = upd (upd (upd (upd H l (.lst (ns.map V.int))) p (.dK [])) l2 (.lst (ns.map V.int))) D (.lst (ms.map V.int)))
      ⟨[], Nat.le_refl _, rfl⟩ (fun i H5 _ ⟨ms, _, e⟩ => by rw [e]; refine SqL.of ?_; rw [upd_ne (ne_of_none h2 hD)]; exact h2) ?_ ?_⟩
    · rintro i x H5 hx ⟨ms, hm, rfl⟩
      have il : i < ns.length := by
        have := (List.getElem?_eq_some_iff.mp hx).1
        rwa [List.length_map] at this
      obtain ⟨z, rfl⟩ : ∃ z, x = V.int z := by
        rw [List.getElem?_map] at hx
        cases e : ns[i]? with
        | none => rw [e] at hx; cases hx
        | some z => rw [e] at hx; exact ⟨z, (Option.some.inj hx).symm⟩
      refine ⟨rfl, .int z, rfl, 10, 18, rfl, rfl, ⟨by decide, by decide, by decide⟩, _, _, rfl, rfl, _, rfl, ite2 (fun _ => ?_) (fun _ => ?_)⟩
      · refine ⟨.int z, rfl, ms.map V.int, upd_same, ?_, ms ++ [z], by rw [List.length_append]; simp; omega, ?_⟩
        · rw [List.length_map]; exact small1000 (by omega)
        · rw [upd_upd, List.map_append]; rfl
      · exact ⟨ms, by omega, rfl⟩
    · rintro H5 ⟨ms, hm, rfl⟩
      rw [List.length_map] at hm
      have hDl : upd (upd (upd (upd H l (.lst (ns.map V.int))) p (.dK [])) l2 (.lst (ns.map V.int))) D (.lst (ms.map V.int)) D = some (.lst (ms.map V.int)) := upd_same
      have sD := sl.trans (same_new (o := .lst (ms.map V.int)) hD)
      have pD : p ≠ D := ne_of_none (H := upd (upd _ p (.dK [])) l2 _) (by rw [upd_ne pl2]; exact upd_same) hD
      refine ⟨D, _, rfl, SqL.of hDl, fun c hc => ?_⟩
      have s3 := sD.trans (same_new (o := .lst (ms.map V.int).reverse) hc)
      have pc : p ≠ c := ne_of_none (H := upd (upd (upd _ p (.dK [])) l2 _) D _) (by rw [upd_ne pD, upd_ne pl2]; exact upd_same) hc
      refine ⟨.int b, rfl, by rw [upd_ne pc, upd_ne pD, upd_ne pl2]; exact upd_same, dgv c b, rfl, (show 2 ≤ 15 by omega), ?_⟩
      rw [merge_dgv]
      refine q p c _ (fun x o hx => ?_) ⟨ms.reverse, b, upd_same, ?_, by rw [List.length_reverse]; omega, b0, b1⟩ (s2.free hp) (sD.free hc)
      · rw [upd_ne (ne_of_none (s2 _ _ hx) hp)]
        exact s3 x o hx
      · rw [upd_ne pc.symm, upd_same, List.map_reverse]
theorem rd_lawB {rest : TS} {wr : WS} {N : List Str} {vs : List V} {H : Hp} {Q : VK} {Ex E1 : XK} (hN : 2 ≤ N.length) (hs : ∀ p c, SimS K (GB cls fld p c) rest wr)
    (hw : wr ⟨fun _ => False, fun d _ => d = .bl true, fun _ => False, fun _ => False⟩ ⟨none :: some (.sh .deck) :: List.replicate (N.length - 2) none, 0⟩)
    (h : spLaw K vs H Q Ex) : tSeq (tAsg (tCall (spDeckG K) [] E1 (tCons (tVar 0) tNil)) (gName 1)) rest { nx := fun _ H' => Q .non H', rt := Q } (L2.start N vs) H := by
  obtain ⟨a, ns, rfl, hS, hl, q⟩ := h
  obtain ⟨L, hL⟩ : ∃ L, N.length = L + 2 := ⟨N.length - 2, by omega⟩
  have st : L2.start N [.ref a] = some (.ref a) :: none :: List.replicate L none := by
    unfold L2.start
    rw [show N.length - ([V.ref a] : List V).length = L + 1 by simp [hL]]
    rfl
  rw [show N.length - 2 = L by omega] at hw
  rw [st]
  refine ⟨.ref a, rfl, a, ns, rfl, hS, hl, fun p c H1 s1 dk hp hc => ?_⟩
  have S : SR K (GB cls fld p c) ⟨H1, [p, c], [], none⟩ (fun _ => 0) [p, c] (some (.ref a) :: some (.ref p) :: List.replicate L none) ⟨none :: some (.sh .deck) :: List.replicate L none, 0⟩ H1 := by
    have no : ∀ (i : Nat) (x : SV), (none :: some (.sh .deck) :: List.replicate L none : List (Option SV))[i]? = some (some x) → i = 1 ∧ x = .sh .deck := fun i x e => by
      match i with
      | 0 => cases e
      | 1 => exact ⟨rfl, by injection e with e; injection e with e; exact e.symm⟩
      | i + 2 =>
        have e : (List.replicate L (none : Option SV))[i]? = some (some x) := e
        rw [List.getElem?_replicate] at e
        split at e <;> cases e
    refine ⟨by simp, fun i d e => ?_, fun i d e => ?_, fun i j ⟨d, e⟩ _ _ => ?_, fun a z => z, fun a z => z, fun a z => ?_, fun b o e _ => e, dk, fun p hp => (by cases hp), fun x hx => (by cases hx)⟩
    · obtain ⟨rfl, e2⟩ := no i _ e
      cases e2
      exact ⟨_, rfl, rfl⟩
    · obtain ⟨_, e2⟩ := no i _ e
      cases e2
    · obtain ⟨_, e2⟩ := no i _ e
      cases e2
    · exact (GB cls fld p c).dal 0 H1 dk a z
  exact hs p c _ _ _ _ _ _ S _ hw _ ⟨fun _ _ _ _ _ _ z => z.elim, fun _ _ _ _ _ _ z => z.elim, fun _ _ _ _ _ _ z => z.elim, fun v d n H' rv _ _ z => by
    have z : d = .bl true := z
    subst z
    have rv : v = .bl true := rv
    subst rv
    exact q H'⟩
end
end L3
namespace L3
open PySem PySem.Spec PyProof.Rows L2
theorem cut_to (ds : List D) (k : Nat) : cutD ds none (some (k : Int)) = ds.take k := by
  unfold cutD
  rw [HT.sIx_none, HT.sIx_nat, List.drop_zero, Nat.sub_zero]
  rcases Nat.le_total k ds.length with h | h
  · rw [Nat.min_eq_left h]
  · rw [Nat.min_eq_right h, List.take_of_length_le h, List.take_of_length_le (Nat.le_refl _)]
theorem cut_from (ds : List D) (k : Nat) : cutD ds (some (k : Int)) none = ds.drop k := by
  unfold cutD
  rw [HT.sIx_none, HT.sIx_nat]
  rcases Nat.le_total k ds.length with h | h
  · rw [Nat.min_eq_left h]
    exact List.take_of_length_le (by rw [List.length_drop]; omega)
  · rw [Nat.min_eq_right h, List.drop_of_length_le (Nat.le_refl _), List.drop_of_length_le h]; simp
theorem cut_mid (ds : List D) (j k : Nat) : cutD ds (some (j : Int)) (some (k : Int)) = (ds.take k).drop j := by
  unfold cutD
  rw [HT.sIx_nat, HT.sIx_nat]
  apply List.ext_getElem?
  intro i
  rw [List.getElem?_take, List.getElem?_drop, List.getElem?_drop, List.getElem?_take]
  by_cases a : j ≤ ds.length
  · rw [Nat.min_eq_left a]
    by_cases b : k ≤ ds.length
    · rw [Nat.min_eq_left b]
      by_cases c : j + i < k
      · rw [if_pos (by omega), if_pos c]
      · rw [if_neg (by omega), if_neg c]
    · rw [Nat.min_eq_right (by omega)]
      by_cases c : j + i < ds.length
      · rw [if_pos (by omega), if_pos (by omega)]
      · rw [if_neg (by omega), List.getElem?_eq_none (by omega)]; simp
  · rw [List.getElem?_eq_none (show ds.length ≤ j + i by omega), if_neg (by omega)]; simp
theorem cut_all (ds : List D) : cutD ds none none = ds := by
  unfold cutD
  rw [HT.sIx_none, HT.sIx_none]
  exact List.take_of_length_le (Nat.le_refl _)
/-- plain data without truth values, at most h deep -/
inductive Pl : Nat → D → Prop
  | int (h : Nat) (i : Int) : Pl h (.int i)
  | str (h : Nat) (x : Str) (hx : PyData.canLay0 (.str x) = true) : Pl h (.str x)
  | non (h : Nat) : Pl h .non
  | lst {h : Nat} {ds : List D} : (∀ d, d ∈ ds → Pl h d) → Pl (h + 1) (.lst ds)
  | tup {h : Nat} {ds : List D} : (∀ d, d ∈ ds → Pl h d) → Pl (h + 1) (.tup ds)
theorem Pl.mono {h k : Nat} {d : D} (p : Pl h d) (hk : h ≤ k) : Pl k d := by
  induction p generalizing k with
  | int h i => exact .int _ _
  | str h i hx => exact .str _ _ hx
  | non h => exact .non _
  | lst _ ih => 
    cases k with
    | zero => omega
    | succ k => exact .lst fun d hd => ih d hd (by omega)
  | tup _ ih => 
    cases k with
    | zero => omega
    | succ k => exact .tup fun d hd => ih d hd (by omega)
theorem pys_ex {h : Nat} : ∀ {ds : List D}, (∀ d, d ∈ ds → ∃ p, d.py = some p ∧ p.canLay0 = true ∧ p.depth ≤ h) → ∃ ps, D.pys ds = some ps ∧ PyData.canLayAll0 ps = true ∧ PyData.depthAll ps ≤ h
  | [], _ => ⟨[], by simp [D.pys], rfl, Nat.zero_le _⟩
  | d :: ds, hd => by
    obtain ⟨p, e1, e2, e3⟩ := hd d List.mem_cons_self
    obtain ⟨ps, f1, f2, f3⟩ := pys_ex (ds := ds) fun d' h' => hd d' (List.mem_cons_of_mem _ h')
    refine ⟨p :: ps, by simp [D.pys, e1, f1], by simp [PyData.canLayAll0, e2, f2], ?_⟩
    simp only [PyData.depthAll]
    omega
theorem Pl.py {h : Nat} {d : D} (p : Pl h d) : ∃ p, d.py = some p ∧ p.canLay0 = true ∧ p.depth ≤ h := by
  induction p with
  | int h i => exact ⟨_, py_int i, rfl, Nat.zero_le _⟩
  | str h i hx => exact ⟨_, py_str i, hx, Nat.zero_le _⟩
  | non h => exact ⟨_, py_non, rfl, Nat.zero_le _⟩
  | lst _ ih =>
    obtain ⟨ps, f1, f2, f3⟩ := pys_ex ih
    exact ⟨.list ps, by simp [D.py, f1], by simpa [PyData.canLay0] using f2, Nat.succ_le_succ f3⟩
  | tup _ ih =>
    obtain ⟨ps, f1, f2, f3⟩ := pys_ex ih
    exact ⟨.tuple ps, by simp [D.py, f1], by simpa [PyData.canLay0] using f2, Nat.succ_le_succ f3⟩
theorem eqvAll_iff {ds : List D} (ih : ∀ d, d ∈ ds → ∀ (k : Nat) (e : D) (p q : PyData), Pl k e → d.py = some p → e.py = some q → (PyData.eqv p q = true ↔ d = e)) : ∀ {es : List D} {ps qs : List PyData} {k : Nat}, (∀ e, e ∈ es → Pl k e) → D.pys ds = some ps → D.pys es = some qs → (PyData.eqvAll ps qs = true ↔ ds = es) := by
  induction ds with
  | nil =>
    intro es ps qs k he e1 e2
    have e1 : ps = [] := by simpa [D.pys] using e1.symm
    subst e1
    cases es with
    | nil =>
      have e2 : qs = [] := by simpa [D.pys] using e2.symm
      subst e2
      simp [PyData.eqvAll]
    | cons e es =>
      simp only [D.pys] at e2
      obtain ⟨q, q1, q2⟩ := Option.bind_eq_some_iff.mp e2
      obtain ⟨qs', q3, rfl⟩ := Option.map_eq_some_iff.mp q2
      simp [PyData.eqvAll]
  | cons d ds ih2 =>
    intro es ps qs k he e1 e2
    simp only [D.pys] at e1
    obtain ⟨p, p1, p2⟩ := Option.bind_eq_some_iff.mp e1
    obtain ⟨ps', p3, rfl⟩ := Option.map_eq_some_iff.mp p2
    cases es with
    | nil =>
      have e2 : qs = [] := by simpa [D.pys] using e2.symm
      subst e2
      simp [PyData.eqvAll]
    | cons e es =>
      simp only [D.pys] at e2
      obtain ⟨q, q1, q2⟩ := Option.bind_eq_some_iff.mp e2
      obtain ⟨qs', q3, rfl⟩ := Option.map_eq_some_iff.mp q2
      have a := ih d List.mem_cons_self k e p q (he e List.mem_cons_self) p1 q1
      have b := ih2 (fun d' h' => ih d' (List.mem_cons_of_mem _ h')) (fun e' h' => he e' (List.mem_cons_of_mem _ h')) p3 q3
      simp only [PyData.eqvAll, Bool.and_eq_true, a, b, List.cons.injEq]
theorem Pl.eqv {h : Nat} {d : D} (pd : Pl h d) : ∀ (k : Nat) (e : D) (p q : PyData), Pl k e → d.py = some p → e.py = some q → (PyData.eqv p q = true ↔ d = e) := by
  induction pd with
  | int h i =>
    intro k e p q pe e1 e2
    rw [py_int] at e1
    cases e1
    cases pe with
    | int _ j => rw [py_int] at e2; cases e2; simp [PyData.eqv]
    | str _ j _ => rw [py_str] at e2; cases e2; simp [PyData.eqv]
    | non => rw [py_non] at e2; cases e2; simp [PyData.eqv]
    | lst _ => simp only [D.py] at e2; obtain ⟨ps, _, rfl⟩ := Option.map_eq_some_iff.mp e2; simp [PyData.eqv]
    | tup _ => simp only [D.py] at e2; obtain ⟨ps, _, rfl⟩ := Option.map_eq_some_iff.mp e2; simp [PyData.eqv]
  | str h i hx =>
    intro k e p q pe e1 e2
    rw [py_str] at e1
    cases e1
    cases pe with
    | int _ j => rw [py_int] at e2; cases e2; simp [PyData.eqv]
    | str _ j _ => rw [py_str] at e2; cases e2; simp [PyData.eqv]
    | non => rw [py_non] at e2; cases e2; simp [PyData.eqv]
    | lst _ => simp only [D.py] at e2; obtain ⟨ps, _, rfl⟩ := Option.map_eq_some_iff.mp e2; simp [PyData.eqv]
    | tup _ => simp only [D.py] at e2; obtain ⟨ps, _, rfl⟩ := Option.map_eq_some_iff.mp e2; simp [PyData.eqv]
  | non h =>
    intro k e p q pe e1 e2
    rw [py_non] at e1
    cases e1
    cases pe with
    | int _ j => rw [py_int] at e2; cases e2; simp [PyData.eqv]
    | str _ j _ => rw [py_str] at e2; cases e2; simp [PyData.eqv]
    | non => rw [py_non] at e2; cases e2; simp [PyData.eqv]
    | lst _ => simp only [D.py] at e2; obtain ⟨ps, _, rfl⟩ := Option.map_eq_some_iff.mp e2; simp [PyData.eqv]
    | tup _ => simp only [D.py] at e2; obtain ⟨ps, _, rfl⟩ := Option.map_eq_some_iff.mp e2; simp [PyData.eqv]
  | @lst h ds hd ih =>
    intro k e p q pe e1 e2
    simp only [D.py] at e1
    obtain ⟨ps, f1, rfl⟩ := Option.map_eq_some_iff.mp e1
    cases pe with
    | int _ j => rw [py_int] at e2; cases e2; simp [PyData.eqv]
    | str _ j _ => rw [py_str] at e2; cases e2; simp [PyData.eqv]
    | non => rw [py_non] at e2; cases e2; simp [PyData.eqv]
    | lst he =>
      simp only [D.py] at e2
      obtain ⟨qs, f2, rfl⟩ := Option.map_eq_some_iff.mp e2
      simp only [PyData.eqv, D.lst.injEq]
      exact eqvAll_iff ih he f1 f2
    | tup _ => simp only [D.py] at e2; obtain ⟨ps, _, rfl⟩ := Option.map_eq_some_iff.mp e2; simp [PyData.eqv]
  | @tup h ds hd ih =>
    intro k e p q pe e1 e2
    simp only [D.py] at e1
    obtain ⟨ps, f1, rfl⟩ := Option.map_eq_some_iff.mp e1
    cases pe with
    | int _ j => rw [py_int] at e2; cases e2; simp [PyData.eqv]
    | str _ j _ => rw [py_str] at e2; cases e2; simp [PyData.eqv]
    | non => rw [py_non] at e2; cases e2; simp [PyData.eqv]
    | lst _ => simp only [D.py] at e2; obtain ⟨ps, _, rfl⟩ := Option.map_eq_some_iff.mp e2; simp [PyData.eqv]
    | tup he =>
      simp only [D.py] at e2
      obtain ⟨qs, f2, rfl⟩ := Option.map_eq_some_iff.mp e2
      simp only [PyData.eqv, D.tup.injEq]
      exact eqvAll_iff ih he f1 f2
/-- == of plain data -/
theorem eqD_pl {neg : Bool} {d e : D} (hd : Pl 32 d) (he : Pl 32 e) {Q : RD → Prop} (q1 : d = e → Q (.sh (.bl (!neg)))) (q2 : d ≠ e → Q (.sh (.bl neg))) : eqD neg d e Q := by
  obtain ⟨p, e1, c1, d1⟩ := hd.py
  obtain ⟨q, e2, c2, d2⟩ := he.py
  have iff := hd.eqv 32 e p q he e1 e2
  refine ⟨p, q, e1, e2, ?_, ?_, ?_⟩
  · unfold SeqAt.shaped; rw [c1, decide_eq_true (by omega)]; rfl
  · unfold SeqAt.shaped; rw [c2, decide_eq_true (by omega)]; rfl
  · by_cases z : d = e
    · rw [iff.mpr z]
      have := q1 z
      cases neg <;> exact this
    · have f : PyData.eqv p q = false := by
        cases y : PyData.eqv p q with
        | false => rfl
        | true => exact (z (iff.mp y)).elim
      rw [f]
      have := q2 z
      cases neg <;> exact this
theorem Pl.ints {h : Nat} (l : List Int) : Pl (h + 1) (.lst (l.map D.int)) := .lst fun d hd => by
  obtain ⟨i, _, rfl⟩ := List.mem_map.mp hd
  exact .int _ _
theorem Pl.tints {h : Nat} (l : List Int) : Pl (h + 1) (.tup (l.map D.int)) := .tup fun d hd => by
  obtain ⟨i, _, rfl⟩ := List.mem_map.mp hd
  exact .int _ _
theorem Pl.map {α : Type} {f : α → D} {h : Nat} {l : List α} (hf : ∀ a ∈ l, Pl h (f a)) : Pl (h + 1) (.lst (l.map f)) := .lst fun d hd => by
  obtain ⟨i, hi, rfl⟩ := List.mem_map.mp hd
  exact hf i hi
theorem Pl.tmap {α : Type} {f : α → D} {h : Nat} {l : List α} (hf : ∀ a ∈ l, Pl h (f a)) : Pl (h + 1) (.tup (l.map f)) := .tup fun d hd => by
  obtain ⟨i, hi, rfl⟩ := List.mem_map.mp hd
  exact hf i hi
theorem Pl.nil {h : Nat} : Pl (h + 1) (.lst []) := .lst fun d hd => by cases hd
theorem Pl.tnil {h : Nat} : Pl (h + 1) (.tup []) := .tup fun d hd => by cases hd
theorem ints_inj {a b : List Int} : a.map D.int = b.map D.int ↔ a = b := by
  constructor
  · intro h
    induction a generalizing b with
    | nil => cases b with
      | nil => rfl
      | cons _ _ => simp at h
    | cons x a ih => cases b with
      | nil => simp at h
      | cons y b =>
        simp only [List.map_cons, List.cons.injEq, D.int.injEq] at h
        rw [h.1, ih h.2]
  · rintro rfl; rfl
theorem cut_from1 (ds : List D) (k : Nat) : cutD ds (some ((k : Int) + 1)) none = ds.drop (k + 1) := cut_from ds (k + 1)
theorem cut_tl (ds : List D) : cutD ds (some 1) none = ds.drop 1 := cut_from ds 1
theorem cut_to1 (ds : List D) (k : Nat) : cutD ds none (some ((k : Int) + 1)) = ds.take (k + 1) := cut_to ds (k + 1)
theorem atI_zero {α : Type} (x : α) (xs : List α) : L2.atI (x :: xs) 0 = some x := L2.atI_nat (j := 0) rfl
theorem atI_getLast {α : Type} (xs : List α) : L2.atI xs (-1) = xs.getLast? := by
  unfold L2.atI L2.ixN
  cases xs with
  | nil => simp
  | cons x xs =>
    have e1 : ¬ (0 : Int) ≤ -1 := by decide
    have e2 : -(((x :: xs).length : Nat) : Int) ≤ -1 := by simp; omega
    have e3 : (-1 + (((x :: xs).length : Nat) : Int)).toNat = xs.length := by simp; omega
    rw [if_neg e1, if_pos e2, e3, List.getLast?_eq_getElem?]
    simp
theorem atI_snoc {α : Type} (x : α) (xs : List α) : L2.atI (xs ++ [x]) (-1) = some x := by rw [atI_getLast]; simp
end L3
namespace L3
open PySem PySem.Spec PyProof.Rows L2
section
variable {X : Cx} {G : Gx} {K : PySem.W.Frag} {e1 e2 : Expr} {t1 t2 : TE} {w1 w2 : WE} {x y' : Str} {px py' pt pt2 pos : Pos}
theorem sim_parC2 {ta tb : TE} {wa wb : WE} {i j : Nat} {oi oj : Bool} (ha : ∀ E, SimE K G E ta wa) (hb : ∀ E, SimE K G E tb wb) : SimS K G (tAsg (tTup (tCons ta (tCons tb tNil))) (gTup K 2 (gCons (gName i) (gCons (gName j) gNil)))) (wPar2 i oi j oj wa wb) := fun E am M σ δ H S D3 q De R => by
  refine ha E am M σ δ H S _ q _ fun x rx δ1 H1 S1 e1 o1 v1 q => ?_
  by_cases k1 : okp oi rx
  · obtain ⟨M1, i1, T1, p1, n1⟩ := v1.pv S1 k1
    obtain ⟨l1, G1, b1⟩ := p1.ghost T1
    refine hb (E.add l1) am M1 σ δ1 H1 G1 _ q _ fun y ry δ2 H2 S2 e2 o2 v2 ⟨_, k2, q⟩ => ?_
    obtain ⟨M2, i2, T2, p2, n2⟩ := v2.pv S2 k2
    have q1 := b1 M2 δ2 H2 T2 e2 o2 i2
    obtain ⟨am1, U1, f1⟩ := PV.put (i := i) T2.drop q1 (okp_ni k1)
    have q2 := f1 y oj ry.d (fun z1 z2 e => by
      subst z1 z2
      obtain ⟨p, e', hp⟩ := p1.ref
      exact n2 rfl p (by rw [e, e']) hp) p2.of_add
    obtain ⟨am2, U2, _⟩ := PV.put (i := j) U1 q2 (okp_ni k2)
    exact ⟨(by decide : 2 ≤ sizeLine), fun p hp => ⟨p, [x, y], rfl, .inl (.inl upd_same), rfl, x, [y], rfl, y, [], rfl, rfl, R.nx _ _ _ _ _ (U2.grow (same_new hp)) q⟩⟩
  · refine hb E am M σ δ1 H1 S1 _ q _ fun y ry δ2 H2 S2 e2 o2 v2 ⟨k, _⟩ => (k1 k).elim
theorem ds_parC2 (K : PySem.W.Frag) (i' : Nat) (oi : Bool) (j : Nat) (oj : Bool) {kt k2} (hc : X.calm = true) (hN : X.N.Nodup) (h1 : DE X G e1 t1 w1) (h2 : DE X G e2 t2 w2) (hi : X.N[i']? = some x := by rfl) (hj : X.N[j]? = some y' := by rfl)
    (hx : Loc X.env.scope x := by first | exact Or.inl rfl | exact Or.inr rfl) (hy : Loc X.env.scope y' := by first | exact Or.inl rfl | exact Or.inr rfl) (hfx : X.fn x = true ∨ X.env.scope.names.lookup x = some .local := by first | exact .inl rfl | exact .inr rfl) (hfy : X.fn y' = true ∨ X.env.scope.names.lookup y' = some .local := by first | exact .inl rfl | exact .inr rfl)
    (hst : starEach [e1, e2] X.env = (false, eval e1 X.env) :: starEach [e2] X.env := by rfl) (hst2 : starEach [e2] X.env = (false, eval e2 X.env) :: starEach [] X.env := by rfl)
    (hw : swappedStores [.Tuple [.Name x px, .Name y' py'] kt pt] (.Tuple [e1, e2] k2 pt2) X.env = pure none := by rfl)
    (hs : swapsWithSole [.Tuple [.Name x px, .Name y' py'] kt pt] (.Tuple [e1, e2] k2 pt2) pos.line X.env = pure false := by rfl)
    (h3 : (assignEach [.Tuple [.Name x px, .Name y' py'] kt pt] X.env).map (·.2) = [assign (.Tuple [.Name x px, .Name y' py'] kt pt) X.env] := by rfl)
    (hs1 : (assignEach [.Name x px, .Name y' py'] X.env).map (·.2) = assign (.Name x px) X.env :: (assignEach [.Name y' py'] X.env).map (·.2) := by rfl) (hs2 : (assignEach [.Name y' py'] X.env).map (·.2) = assign (.Name y' py') X.env :: (assignEach [] X.env).map (·.2) := by rfl)
    (hn : (assignEach [.Name x px, .Name y' py'] X.env).length = 2 := by rfl) (hst' : (assignEach [.Name x px, .Name y' py'] X.env).findIdx? (·.1) = none := by rfl) (hK : X.K = K := by rfl) :
    DS X G (.Assign [.Tuple [.Name x px, .Name y' py'] kt pt] (.Tuple [e1, e2] k2 pt2) pos) (tAsg (tTup (tCons t1 (tCons t2 tNil))) (gTup K 2 (gCons (gName i') (gCons (gName j) gNil)))) (wPar2 i' oi j oj w1 w2) := by
  subst hK
  exact ⟨ps_asg (pe_tup (pa_cons h1.pe (pa_cons h2.pe pa_nil hst2) hst)) (pg_tup hc (pgs_cons (pg_name hN hi hx hfx) (pgs_cons (pg_name hN hj hy hfy) pgs_nil hs2) hs1) hn hst') hs hw h3, sim_parC2 h1.sim h2.sim⟩
end
end L3
namespace L3
open PySem PySem.Spec PyProof.Rows L2
section
variable {X : Cx} {G : Gx} {K : PySem.W.Frag} {E : Ent} {te ti : TE} {we wi wo : WE} {e i o : Expr} {pos apos : Pos}
/-- never reached -/
@[simp] def wWall : WS := fun _ _ => False
theorem ds_wall {st : Stmt} : DS X G st (fun _ _ _ => False) wWall := ⟨⟨fun _ _ _ _ _ _ h => h.elim⟩, fun E am M σ δ H S D3 q De R => q.elim⟩
@[simp] def wSetIx (k : Nat) (wv wi : WE) : WS := fun De δ => wv δ fun r δ1 => ¬ r.bor ∧ (∃ ds0, ownL δ1 k ds0) ∧ wi δ1 fun s δ2 => ∃ ds, ownL δ2 k ds ∧ isI s.d fun z => ∃ j, ixN ds.length z = some j ∧ De.nx ⟨δ2.sl.set k (some (.ow (.lst (ds.set j r.d)))), δ2.n⟩
theorem sim_setIx {k : Nat} (h : ∀ E, SimE K G E te we) (h' : ∀ E, SimE K G E ti wi) : SimS K G (tAsg te (gSub (tVar k) ti rSetL)) (wSetIx k we wi) := fun E am M σ δ H S D3 q De R => by
  refine h E am M σ δ H S _ q _ fun x r δ1 H1 S1 e1 o1 rv ⟨nb, ⟨ds0, h0⟩, q⟩ => ?_
  obtain ⟨a1, _⟩ := S1.ow k _ h0
  refine ⟨_, a1, ?_⟩
  refine h' E am M σ δ1 H1 S1 _ q _ fun z s δ2 H2 S2 e2 o2 sv ⟨ds, h1, q⟩ => ?_
  obtain ⟨b1, b2, b3, b4, xs, b5, b6⟩ := S2.ow k _ h1
  obtain ⟨zi, es, rfl, j, hj, q⟩ := isI_of S2 sv.k q
  have rr := (rv.k.later (δ2 := δ2) S1 e2 (fun b => (nb b).elim)).rep nb
  refine ⟨am k, xs, zi, j, rfl, rfl, b5, by rw [b6.length]; exact hj, R.nx am M _ _ _ (S2.mut (d' := .lst (ds.set j r.d)) h1 ⟨xs.set j x, upd_same, ?_⟩ rfl) q⟩
  rw [mask_upd b2]
  exact b6.set j rr
theorem ds_setIx (k : Nat) {x : Str} {px pos2 : Pos} (he : DE X G e te we) (hx : PE X (.Name x px) (tVar k)) (hi : DE X G i ti wi) (ha : ∀ v, assign (.Subscript (.Name x px) i pos2) X.env v = (do
      let ov ← holding [v] (eval (.Name x px) X.env)
      let iv ← holding [v, ov] (eval i X.env)
      standAt pos2
      holding [v, ov, iv] (setItem ov iv v)
      release [v, ov, iv] []) := by intro _; rfl) (hs : swapsWithSole [.Subscript (.Name x px) i pos2] e pos.line X.env = pure false := by rfl) (hw : swappedStores [.Subscript (.Name x px) i pos2] e X.env = pure none := by rfl)
    (h1 : (assignEach [.Subscript (.Name x px) i pos2] X.env).map (·.2) = [assign (.Subscript (.Name x px) i pos2) X.env] := by rfl) :
    DS X G (.Assign [.Subscript (.Name x px) i pos2] e pos) (tAsg te (gSub (tVar k) ti rSetL)) (wSetIx k we wi) :=
  ⟨ps_asg he.pe (pg_sub hx hi.pe set_list ha) hs hw h1, sim_setIx he.sim hi.sim⟩
def isS : D → (Str → Prop) → Prop
  | .str i, Q => Q i
  | _, _ => False
@[simp] theorem isS_0 (i : Str) (Q : Str → Prop) : isS (.str i) Q = Q i := rfl
/-- a text's method with one argument -/
@[simp] def wM1 (f : F2) (a b : WE) : WE := fun δ Q => a δ fun x δ1 => isS x.d fun _ => b δ1 fun y δ2 => (x.bor → δ2.sl = δ1.sl) ∧ f x.d y.d fun q => Q q δ2
theorem sim_m1 {r : V → List V → Hp → VK → Prop} {f : F2} (hs : OpS K G (fun x y H Q => r x [y] H Q) f) (ha : SimE K G E te we) (hb : SimE K G E ti wi) : SimE K G E (tM1 r te ti) (wM1 f we wi) := fun am M σ δ H S Qd h Q k => by
  refine ha am M σ δ H S _ h _ fun x rx δ1 H1 S1 e1 o1 v1 h => ?_
  have b0 := v1.k.rb S1
  cases er : rx.d <;> rw [er] at h <;> first | exact h.elim | skip
  have ex := b0
  rw [er] at ex
  refine ⟨⟨_, ex.str⟩, ?_⟩
  refine hb am M σ δ1 H1 S1 _ h _ fun y ry δ2 H2 S2 e2 o2 v2 h => ?_
  obtain ⟨st, h⟩ := h
  have bx := (v1.k.later S1 e2 st).rb S2
  rw [er] at bx
  refine hs M H2 x y _ _ S2.al bx (v2.k.rb S2) _ h _ fun v q H3 sm rn hq => ?_
  exact k v q δ2 H3 (S2.grow sm) ((e1.trans o1 e2).trans (fun i z => o1 i (o2 i z)) (Ext.of (δ := δ2) sm)) (fun i z => o1 i (o2 i z)) (rn.rv S2 sm) hq
def strsOf : D → (List Str → Prop) → Prop
  | .lst ds, Q => ∃ ys : List Str, ds = ys.map D.str ∧ Q ys
  | .tup ds, Q => ∃ ys : List Str, ds = ys.map D.str ∧ Q ys
  | _, _ => False
@[simp] theorem strsOf_l (ds : List D) (Q : List Str → Prop) : strsOf (.lst ds) Q = ∃ ys : List Str, ds = ys.map D.str ∧ Q ys := rfl
@[simp] theorem strsOf_t (ds : List D) (Q : List Str → Prop) : strsOf (.tup ds) Q = ∃ ys : List Str, ds = ys.map D.str ∧ Q ys := rfl
def fJoin : F2
  | .str a, d, Q => strsOf d fun ys => (ys.map (·.length)).sum + ys.length * a.length ≤ 16777216 ∧ Q (.sh (.str (Txt.join a ys)))
  | _, _, _ => False
@[simp] theorem fJoin_0 (a : Str) (d : D) (Q : RD → Prop) : fJoin (.str a) d Q = strsOf d fun ys => (ys.map (·.length)).sum + ys.length * a.length ≤ 16777216 ∧ Q (.sh (.str (Txt.join a ys))) := rfl
def rJoin (K : PySem.W.Frag) : V → List V → Hp → VK → Prop := fun x xs H Q => ∃ a p, ∃ ys : List Str, x = .str a ∧ xs = [.ref p] ∧ (SqL K H p (ys.map V.str) ∨ SqT K H p (ys.map V.str)) ∧ (ys.map (·.length)).sum + ys.length * a.length ≤ 16777216 ∧ Q (.str (Txt.join a ys)) H
theorem ops_join : OpS K G (fun x y H Q => rJoin K x [y] H Q) fJoin := fun M H x y d e al bx by' Qd h Q k => by
  cases d <;> first | exact h.elim | skip
  cases e <;> first | exact h.elim | skip
  · obtain ⟨ys, rfl, hz, h⟩ := h
    obtain ⟨p, xs, rfl, hp, r⟩ := by'.lst
    rw [r.strs] at hp
    exact ⟨_, p, ys, bx.str, rfl, .inl (SqL.of hp), hz, k _ _ H (Same.refl _) rn_str h⟩
  · obtain ⟨ys, rfl, hz, h⟩ := h
    obtain ⟨p, xs, rfl, hp, r⟩ := by'.tup
    rw [r.strs] at hp
    exact ⟨_, p, ys, bx.str, rfl, .inr hp, hz, k _ _ H (Same.refl _) rn_str h⟩
theorem de_join (K : PySem.W.Frag) (ho : DE X G o te we) (he : DE X G e ti wi) (hs : starEach [e] X.env = [(false, eval e X.env)] := by rfl) (hbase : attributeBase o "join" X.env (eval o X.env) = eval o X.env := by rfl) (hline : (apos.endLine == pos.line) = true := by rfl) (hK : X.K = K := by rfl) :
    DE X G (.Call (.Attribute o "join" apos) [e] [] pos) (tM1 (rJoin K) te ti) (wM1 fJoin we wi) := by
  subst hK
  exact ⟨pe_join ho.pe he.pe hs hbase hline, fun E => sim_m1 ops_join (ho.sim E) (he.sim E)⟩
def fStr : FC
  | [.int i], Q => i.natAbs.log2 < 1920 ∧ Q (.sh (.str (toString i)))
  | [.str i], Q => Q (.sh (.str i))
  | _, _ => False
@[simp] theorem fStr_0 (i : Int) (Q : RD → Prop) : fStr [.int i] Q = (i.natAbs.log2 < 1920 ∧ Q (.sh (.str (toString i)))) := rfl
@[simp] theorem fStr_1 (i : Str) (Q : RD → Prop) : fStr [.str i] Q = (Q (.sh (.str i))) := rfl
theorem call_strA : CallR X (.type "str") (fun xs H Q => (∃ i, xs = [.int i] ∧ i.natAbs.log2 < 1920 ∧ Q (.str (toString i)) H) ∨ ∃ a, xs = [.str a] ∧ Q (.str a) H) := call_str_int.or SkE.call_str_str
theorem calls_str : CallS K G (fun xs H Q => (∃ i, xs = [.int i] ∧ i.natAbs.log2 < 1920 ∧ Q (.str (toString i)) H) ∨ ∃ a, xs = [.str a] ∧ Q (.str a) H) fStr := fun M H vs ds al b Qd h Q k => by
  match ds, h with
  | [.int i], ⟨h1, h⟩ =>
    obtain ⟨v, rfl, b1⟩ := b.one
    exact .inl ⟨i, by rw [b1.int], h1, k _ _ H (Same.refl _) rn_str h⟩
  | [.str i], h =>
    obtain ⟨v, rfl, b1⟩ := b.one
    exact .inr ⟨i, by rw [b1.str], k _ _ H (Same.refl _) rn_str h⟩
end
section
variable {K : PySem.W.Frag} {x qual : Str} {params : Arguments} {body : List Stmt} {scope : Scope} {dvs : List V} {kws : List (Str × V)} {f : Addr} {fd : FuncData} {ps : List Str}
theorem FunD.kb (F : FunD K x qual params body scope dvs kws f fd) (n : Nat) (ks : List Str) (perm : List Nat) (hd : dvs ≠ [])
    (h : ∀ (T : Addr) (kV doc pm : Value) (an : Option Addr) (cdv ct : Value) (us its ws : List Value), us.length = n → its.length = dvs.length → ws.length = ks.length →
      ∃ k, bindArgs (PySem.W.fnOf x qual params body scope (.ref T) kV doc pm an cdv ct) ⟨us, ks.zip ws⟩ = seqItems? (.ref T) >>= k ∧ k (some its.toArray) = pure (ps.zip (pick perm (us ++ ws ++ its)))) : ∃ its, Vals dvs its ∧ KB K fd ps n ks perm its := by
  obtain ⟨oc, od, dV, kV, doc, pm, an, cdv, ct, osl, rfl, lk, hcd, hD, hK⟩ := F.ex
  rcases hD with ⟨e, _⟩ | ⟨_, T, o, its, m, rfl, lT, oT, rT⟩
  · exact absurd e hd
  · refine ⟨its, rT, fun s us ws X l1 l2 => ?_⟩
    obtain ⟨k, e1, e2⟩ := h T kV doc pm an cdv ct us its ws l1 rT.length.symm l2
    refine BindsTo.of_looks fun M => ?_
    rw [e1]
    exact looks_items X lT oT (.of_pure e2)
/-- an empty tuple that stands in K -/
theorem rep_tup0 {G : Gx} {a : Addr} {o : Obj} {n : Nat} (l : K.lookup a = some o) (c : o.cls = .type "tuple") (d : o.data = .seq #[] n) : ∀ H, Rep K G H (.ref a) (.tup []) := fun H => ⟨a, [], rfl, .inr ⟨o, #[], n, l, c, d, Nat.zero_le _, .nil⟩, rfl⟩
theorem Dfl.cons {G : Gx} {v : V} {d : D} {vs : List V} {ds : List D} (h : ∀ H, Rep K G H v d) (t : Dfl K G vs ds) : Dfl K G (v :: vs) (d :: ds) := fun H => ⟨v, vs, rfl, h H, t H⟩
end
end L3
namespace L3
open PySem PySem.Spec PyProof.Rows L2
/-- an own list is given away, where it is one -/
@[simp] def freeAt (sl : List (Option SV)) (i : Nat) : List (Option SV) := match sl[i]? with
  | some (some (.ow d)) => sl.set i (some (.sh d))
  | _ => sl
@[simp] def wFreeA (i : Nat) (w : WS) : WS := fun De δ => w De ⟨freeAt δ.sl i, δ.n⟩
section
variable {X : Cx} {G : Gx} {K : PySem.W.Frag} {E : Ent} {sts : List Stmt} {t : TS} {w : WS}
theorem sim_freeA {i : Nat} (h : SimS K G t w) : SimS K G t (wFreeA i w) := fun E am M σ δ H S D3 q De R => by
  unfold wFreeA freeAt at q
  cases e : δ.sl[i]? with
  | none => rw [e] at q; exact h E am M σ δ H S D3 q De R
  | some o =>
    cases o with
    | none => rw [e] at q; exact h E am M σ δ H S D3 q De R
    | some sv =>
      cases sv with
      | sh d => rw [e] at q; exact h E am M σ δ H S D3 q De R
      | ow d =>
        rw [e] at q
        obtain ⟨M', _, S'⟩ := S.free e
        exact h E am M' σ _ H S' D3 q De R
theorem dss_freeA (i : Nat) (h1 : DSs X G sts t w) : DSs X G sts t (wFreeA i w) := ⟨h1.ps, sim_freeA h1.sim⟩
end
/-- a text of at most k signs -/
def OkS (k : Nat) (x : Str) : Prop := x.length ≤ k ∧ ∀ c ∈ x.cps.toList, c < 0x110000
theorem OkS.mono {k l : Nat} {x : Str} (h : OkS k x) (hl : k ≤ l) : OkS l x := ⟨Nat.le_trans h.1 hl, h.2⟩
theorem OkS.of {k : Nat} {x : Str} (h : decide (x.length ≤ k) = true) (h' : (x.cps.toList.all fun c => decide (c < 0x110000)) = true) : OkS k x := ⟨of_decide_eq_true h, fun c hc => of_decide_eq_true (List.all_eq_true.mp h' c hc)⟩
theorem OkS.one {c : Nat} (h : c < 0x110000) : OkS 1 ⟨#[c]⟩ := ⟨Nat.le_refl _, fun d hd => by
  have : d = c := by simpa using hd
  rw [this]; exact h⟩
theorem app_cps (x y : Str) : (x ++ y).cps.toList = x.cps.toList ++ y.cps.toList := by
  show (x.cps ++ y.cps).toList = _
  simp
theorem app_len (x y : Str) : (x ++ y).length = x.length + y.length := by
  show (x.cps ++ y.cps).size = _
  simp [Str.length]
theorem OkS.app {k l : Nat} {x y : Str} (h : OkS k x) (h' : OkS l y) : OkS (k + l) (x ++ y) := ⟨by rw [app_len]; exact Nat.add_le_add h.1 h'.1, fun c hc => by
  rw [app_cps] at hc
  rcases List.mem_append.mp hc with z | z
  · exact h.2 c z
  · exact h'.2 c z⟩
theorem OkS.joinS {k a : Nat} {sep : Str} (hs : OkS a sep) : ∀ {ys : List Str}, (∀ y ∈ ys, OkS k y) → OkS (ys.length * (k + a)) (Str.join sep ys)
  | [], _ => ⟨Nat.zero_le _, fun c hc => by simp [Str.join, Str.empty] at hc⟩
  | [y], h => (h y (by simp)).mono (by simp)
  | x :: y :: r, h => by
    have ih := OkS.joinS hs (ys := y :: r) fun z hz => h z (List.mem_cons_of_mem _ hz)
    have := ((h x List.mem_cons_self).app hs).app ih
    refine OkS.mono (show OkS _ (x ++ sep ++ Str.join sep (y :: r)) from this) ?_
    simp only [List.length_cons, Nat.add_mul]
    omega
theorem OkS.join {k a : Nat} {sep : Str} (hs : OkS a sep) {ys : List Str} (h : ∀ y ∈ ys, OkS k y) : OkS (ys.length * (k + a)) (Txt.join sep ys) := by
  have e : Txt.join sep ys = Str.join sep ys := PySem.StrLaws.glued_eq_join sep ys
  rw [e]; exact OkS.joinS hs h
theorem OkS.cut {k : Nat} {x : Str} (h : OkS k x) (lo hi : Option Int) : OkS k (cutS x lo hi) := by
  refine ⟨Nat.le_trans ?_ h.1, fun c hc => h.2 c ?_⟩
  · unfold cutS Str.length
    simp
    omega
  · unfold cutS at hc
    simp at hc
    exact List.mem_of_mem_drop (List.mem_of_mem_take hc)
theorem sum_len {k : Nat} : ∀ {ys : List Str}, (∀ y ∈ ys, y.length ≤ k) → (ys.map (·.length)).sum ≤ ys.length * k
  | [], _ => by simp
  | y :: r, h => by
    have := sum_len (ys := r) fun z hz => h z (List.mem_cons_of_mem _ hz)
    have := h y List.mem_cons_self
    simp only [List.map_cons, List.sum_cons, List.length_cons, Nat.add_mul]
    omega
theorem OkS.lay {k : Nat} {x : Str} (h : OkS k x) : PyData.canLay0 (.str x) = true := by
  show PyData.strOk x = true
  unfold PyData.strOk
  rw [Array.all_eq_true']
  intro c hc
  exact decide_eq_true (h.2 c (by simpa using hc))
theorem Sh.str {k : Nat} {x : Str} (h : OkS k x) : Sh (.str x) (.str x) 0 (10 * k + 2) where
  py := py_str x
  sw := rfl
  nd := rfl
  dp := Nat.le_refl _
  ln := by
    have := PySem.StrLaws.reprText_len x fun c hc => Nat.lt_trans (h.2 c hc) (by decide)
    have := h.1
    show (reprText x).length ≤ _
    omega
theorem ShAll.strs {k : Nat} : ∀ {ns : List Str}, (∀ n ∈ ns, OkS k n) → ShAll (ns.map D.str) (ns.map PyData.str) 0 ((10 * k + 4) * ns.length)
  | [], _ => .nil
  | n :: ns, h => by
    have := ShAll.cons (Sh.str (h n List.mem_cons_self)) (ShAll.strs (ns := ns) fun m hm => h m (List.mem_cons_of_mem _ hm)) (Nat.le_refl _)
    refine ⟨this.py, this.sw, this.nd, this.dp, Nat.le_trans this.ln ?_⟩
    simp only [List.length_cons, Nat.mul_add]
    omega
theorem Pl.strs {k h : Nat} {l : List Str} (hl : ∀ x ∈ l, OkS k x) : Pl (h + 1) (.lst (l.map D.str)) := .lst fun d hd => by
  obtain ⟨i, hi, rfl⟩ := List.mem_map.mp hd
  exact .str _ _ (hl i hi).lay
theorem Pl.tstrs {k h : Nat} {l : List Str} (hl : ∀ x ∈ l, OkS k x) : Pl (h + 1) (.tup (l.map D.str)) := .tup fun d hd => by
  obtain ⟨i, hi, rfl⟩ := List.mem_map.mp hd
  exact .str _ _ (hl i hi).lay
theorem OkS.int {i : Int} {k : Nat} (hk : 0 < k) (h : i.natAbs < 10 ^ k) : OkS (k + 1) (Str.ofString (toString i)) := by
  refine ⟨by rw [PySem.ofString_length]; exact int_text_length_le10 hk h, fun c hc => ?_⟩
  rw [signs_ofString] at hc
  obtain ⟨ch, _, rfl⟩ := List.mem_map.mp hc
  have := ch.valid
  show ch.val.toNat < 0x110000
  rcases this with z | z
  · have z : ch.val.toNat < 0xd800 := z
    omega
  · exact z.2
end L3
namespace L3
open PySem PySem.Spec PyProof.Rows L2
section
variable {prog : Program} {w : World} {A : Around} {R : Result → Shared → Prop} {s : Shared} {elt t0 i0 t1 i1 : Expr} {ifs0 ifs1 : List Expr} {scope : Scope} {pos : Pos} {it acc : Value} {env : Env}
abbrev sc2 (elt t0 i0 t1 i1 : Expr) (ifs0 ifs1 : List Expr) (scope : Scope) (pos : Pos) : Expr := .SetComp elt [⟨t0, i0, ifs0, 0⟩, ⟨t1, i1, ifs1, 0⟩] scope pos
abbrev tests (env : Env) (ifs : List Expr) : Sem Bool := forIn ifs true fun c r => if r = true then do let ok ← isTrue c env (eval c env); pure (ForInStep.yield ok) else pure (ForInStep.yield r)
theorem turn_out : compTurn (sc2 elt t0 i0 t1 i1 ifs0 ifs1 scope pos) 0 it acc env = (do
      standAt i0.pos
      match ← pyNext it with
      | none => pure (.done .next)
      | some v =>
        letOwnedTupleGo t0 it v
        assign t0 env v
        let mut ok := true
        for c in ifs0 do
          if ok then ok ← isTrue c env (eval c env)
        if ok then
          let x ← eval i1 env
          standAt i1.pos
          let x ← foldedSetIterable i1 env x
          let _ ← runOwn (.compStart (sc2 elt t0 i0 t1 i1 ifs0 ifs1 scope pos) 1 (← holding [x] (pyIter x)) acc env) env
        again (.compLoop (sc2 elt t0 i0 t1 i1 ifs0 ifs1 scope pos) 0 it acc env)) := by rfl
theorem turn_in : compTurn (sc2 elt t0 i0 t1 i1 ifs0 ifs1 scope pos) 1 it acc env = (do
      standAt i1.pos
      match ← pyNext it with
      | none => pure (.done .next)
      | some v =>
        letOwnedTupleGo t1 it v
        assign t1 env v
        let mut ok := true
        for c in ifs1 do
          if ok then ok ← isTrue c env (eval c env)
        if ok then
          (do let v ← eval elt env; standAt elt.pos; let _ ← call (.builtin "set.add") [acc, v])
        again (.compLoop (sc2 elt t0 i0 t1 i1 ifs0 ifs1 scope pos) 1 it acc env)) := by rfl
theorem loop_out (hs : ∀ x, foldedSetIterable i1 env x = pure x) (I : Nat → Shared → Prop)
    (turn : ∀ n s, I n s → wpAny (model prog w) A (pyNext it) (fun r s₁ => match r with
      | none => R (.ok .next) s₁
      | some v => wpAny (model prog w) A (letOwnedTupleGo t0 it v) (fun _ s₁' => wpAny (model prog w) A (assign t0 env v) (fun _ s₂ =>
          wpAny (model prog w) A (tests env ifs0) (fun ok s₃ =>
            if ok = true then wpAny (model prog w) A (eval i1 env) (fun x s₄ => wpAny (model prog w) A (pyIter x) (fun it1 s₅ =>
              codeAny (model prog w) A (.compStart (sc2 elt t0 i0 t1 i1 ifs0 ifs1 scope pos) 1 it1 acc env) (fun r s' => match r with
                | .ok _ => ∃ m, m < n ∧ I m s'
                | .error _ => False) s₅) (notedBy (model prog w) A env fun e s' => R (.error e) s') s₄) (notedBy (model prog w) A env fun e s' => R (.error e) s') s₃
            else ∃ m, m < n ∧ I m s₃) (notedBy (model prog w) A env fun e s' => R (.error e) s') s₂) (notedBy (model prog w) A env fun e s' => R (.error e) s') s₁') (notedBy (model prog w) A env fun e s' => R (.error e) s') s₁) (notedBy (model prog w) A env fun e s' => R (.error e) s') s)
    (n : Nat) (h : I n s) : codeAny (model prog w) A (.compLoop (sc2 elt t0 i0 t1 i1 ifs0 ifs1 scope pos) 0 it acc env) R s := by
  refine codeAny_loop rfl I (fun n s hI => ?_) n h
  show wpAny _ A ((compTurn (sc2 elt t0 i0 t1 i1 ifs0 ifs1 scope pos) 0 it acc env).onRaise (fun x => do noteFrame x env; theTreesLotGoes x)) _ _ s
  refine wpAny_noted ?_
  rw [turn_out]
  refine wpAny_bind (wpAny_standAt (wpAny_bind (wpAny_mono (turn n s hI) (fun r s₁ h₁ => ?_) fun _ _ h' => h')))
  cases r with
  | none => exact wpAny_pure h₁
  | some v =>
    refine wpAny_bind (wpAny_mono h₁ (fun _ _ h₁' => wpAny_bind (wpAny_mono h₁' (fun _ _ h₂ => wpAny_bind (wpAny_mono h₂ (fun ok s₃ h₃ => ?_) fun _ _ h' => h')) fun _ _ h' => h')) fun _ _ h' => h')
    cases ok with
    | false => exact wpAny_pure ⟨rfl, h₃⟩
    | true =>
      refine wpAny_bind (wpAny_mono h₃ (fun x s₄ h₄ => ?_) fun _ _ h' => h')
      refine wpAny_bind (wpAny_standAt (wpAny_bind (wpAny_of_eq (hs x) (wpAny_bind (wpAny_holding (wpAny_mono h₄ (fun it1 s₅ h₅ => ?_) fun _ _ h' => h'))))))
      refine wpAny_bind (wpAny_runOwn ?_)
      rw [Around.mark_none]
      refine codeAny_mono h₅ fun r s' hr => ?_
      cases r with
      | ok f =>
        first
          | exact wpAny_pure ⟨rfl, hr⟩
          | exact wpAny_bind (wpAny_pure (wpAny_pure ⟨rfl, hr⟩))
      | error e => exact hr.elim
theorem loop_in (I : Nat → Shared → Prop)
    (turn : ∀ n s, I n s → wpAny (model prog w) A (pyNext it) (fun r s₁ => match r with
      | none => R (.ok .next) s₁
      | some v => wpAny (model prog w) A (letOwnedTupleGo t1 it v) (fun _ s₁' => wpAny (model prog w) A (assign t1 env v) (fun _ s₂ =>
          wpAny (model prog w) A (tests env ifs1) (fun ok s₃ =>
            if ok = true then wpAny (model prog w) A (eval elt env) (fun x s₄ =>
              wpAny (model prog w) A (call (.builtin "set.add") [acc, x]) (fun _ s₅ => ∃ m, m < n ∧ I m s₅) (notedBy (model prog w) A env fun e s' => R (.error e) s') s₄) (notedBy (model prog w) A env fun e s' => R (.error e) s') s₃
            else ∃ m, m < n ∧ I m s₃) (notedBy (model prog w) A env fun e s' => R (.error e) s') s₂) (notedBy (model prog w) A env fun e s' => R (.error e) s') s₁') (notedBy (model prog w) A env fun e s' => R (.error e) s') s₁) (notedBy (model prog w) A env fun e s' => R (.error e) s') s)
    (n : Nat) (h : I n s) : codeAny (model prog w) A (.compLoop (sc2 elt t0 i0 t1 i1 ifs0 ifs1 scope pos) 1 it acc env) R s := by
  refine codeAny_loop rfl I (fun n s hI => ?_) n h
  show wpAny _ A ((compTurn (sc2 elt t0 i0 t1 i1 ifs0 ifs1 scope pos) 1 it acc env).onRaise (fun x => do noteFrame x env; theTreesLotGoes x)) _ _ s
  refine wpAny_noted ?_
  rw [turn_in]
  refine wpAny_bind (wpAny_standAt (wpAny_bind (wpAny_mono (turn n s hI) (fun r s₁ h₁ => ?_) fun _ _ h' => h')))
  cases r with
  | none => exact wpAny_pure h₁
  | some v =>
    refine wpAny_bind (wpAny_mono h₁ (fun _ _ h₁' => wpAny_bind (wpAny_mono h₁' (fun _ _ h₂ => wpAny_bind (wpAny_mono h₂ (fun ok s₃ h₃ => ?_) fun _ _ h' => h')) fun _ _ h' => h')) fun _ _ h' => h')
    cases ok with
    | false => exact wpAny_pure ⟨rfl, h₃⟩
    | true => exact wpAny_bind (wpAny_bind (wpAny_mono h₃ (fun x s₄ h₄ => wpAny_bind (wpAny_standAt (wpAny_bind (wpAny_mono h₄ (fun _ s₅ h₅ => wpAny_pure (wpAny_pure ⟨rfl, h₅⟩)) fun _ _ h' => h')))) fun _ _ h' => h'))
theorem start_in (h0 : codeAny (model prog w) A (.compLoop (sc2 elt t0 i0 t1 i1 ifs0 ifs1 scope pos) 1 it acc env) R s)
    (h : wpAny (model prog w) A (pyIter it) (fun it' s' => codeAny (model prog w) A (.compLoop (sc2 elt t0 i0 t1 i1 ifs0 ifs1 scope pos) 1 it' acc env) R s')
      (notedBy (model prog w) A env fun x s' => R (.error x) s') s) : codeAny (model prog w) A (.compStart (sc2 elt t0 i0 t1 i1 ifs0 ifs1 scope pos) 1 it acc env) R s := by
  refine codeAny_of_tree ?_
  show wpAny _ _ ((compStart (sc2 elt t0 i0 t1 i1 ifs0 ifs1 scope pos) 1 it acc env).onRaise (fun x => do noteFrame x env; standAt theWindowsPlace)) _ _ s
  refine wpAny_notedAt ?_
  unfold compStart
  show wpAny _ _ (ask >>= _) _ _ s
  refine wpAny_bind (wpAny_askSetting (wpAny_ite ?_))
  split
  · first
      | exact wpAny_bind (wpAny_pure (wpAny_pure (And.intro rfl h0)))
      | exact wpAny_pure (And.intro rfl h0)
  · first
      | exact wpAny_bind (wpAny_rule (wpAny_bind (wpAny_standAt (wpAny_bind (wpAny_mono h (fun it' s' h' => wpAny_pure (And.intro rfl h')) fun _ _ x => x)))))
      | (refine wpAny_bind (wpAny_rule ?_); show wpAny _ _ (standAt i1.pos >>= _) _ _ s; exact wpAny_bind (wpAny_standAt (wpAny_bind (wpAny_mono h (fun it' s' h' => wpAny_pure (And.intro rfl h')) fun _ _ x => x))))
end
section
variable {X : Cx}
theorem addI_ok {pins : List (Addr × Obj)} {σ : L2.St} {H : Hp} {s : Shared} {F : Value → Shared → Prop} {D : Addr} {S : Int → Bool} {n : Nat} {y : Int} {tk : Tok} {Q : Value → Shared → Prop} (I : Inv X pins σ H s) (hD : H D = some (SetO X.w D S n)) (room : n + 1 < scanBound)
    (h : ∀ s', Inv X pins σ (upd H D (SetO X.w D (fun j => S j || decide (j = y)) (if S y = true then n else n + 1))) s' → Q .none s') : wpAny (model X.prog X.w) X.A (call (.builtin "set.add") [.ref D, .int y tk]) Q F s := by
  refine setR_add (setO_get I hD) room fun h' sb new => ?_
  obtain ⟨o, a1, a2, a3, ho, a4⟩ := id new
  exact h _ (I.write (e := D) (t' := s.toks + 1) (by rw [hD]; trivial) (.inl rfl) (fun b u hb hu => (sb.2 b hb).trans hu) ⟨o, ho⟩ (setO_new new))
def tSc2 (w : World) (wi : TI) (g : TG) (tt : TT) (wi1 : TI) (g1 : TG) (tt1 : TT) (te : TE) (vs vs1 : List Nat) : TE := fun σ H Q => wi σ H fun J H1 => ∀ D, H1 D = none → ∃ W : Nat → Nat → Hp → Prop, (∃ m, W 0 m (upd H1 D (SetO w D (fun _ => false) 0))) ∧ ∀ i m H, W i m H →
  (J.stop i H ∧ Q (.ref D) H) ∨ (J.go i H ∧ ∃ Nx : Hp → Prop, (∀ H', Nx H' → ∃ m', m' < m ∧ W (i + 1) m' H') ∧ ∀ x H', J.yld i H x H' → g x (wipe σ vs) H' fun σ2 H2 => wipe σ2 vs = wipe σ vs ∧ tt σ2 H2 fun b H3 =>
    if b = true then wi1 σ2 H3 fun J1 H4 => ∃ W1 : Nat → Nat → Hp → Prop, (∃ m, W1 0 m H4) ∧ ∀ j k H, W1 j k H →
      (J1.stop j H ∧ Nx H) ∨ (J1.go j H ∧ ∃ Nx1 : Hp → Prop, (∀ H', Nx1 H' → ∃ k', k' < k ∧ W1 (j + 1) k' H') ∧ ∀ x H', J1.yld j H x H' → g1 x (wipe σ2 vs1) H' fun σ3 H5 => wipe σ3 vs1 = wipe σ2 vs1 ∧ tt1 σ3 H5 fun b H6 =>
        if b = true then te σ3 H6 fun y H7 => ∃ (c : Int) (S : Int → Bool) (n : Nat), y = .int c ∧ H7 D = some (SetO w D S n) ∧ n + 1 < scanBound ∧ Nx1 (upd H7 D (SetO w D (fun j => S j || decide (j = c)) (if S c = true then n else n + 1))) else Nx1 H6)
    else Nx H3)
set_option maxHeartbeats 4000000 in
theorem pe_sc2 {elt tg iter tg1 iter1 : Expr} {ifs ifs1 : List Expr} {scope : Scope} {own : List (Str × Nat)} {vs1 : List Nat} {pos : Pos} {wi wi1 : TI} {g g1 : TG} {tt tt1 : TT} {te : TE} (hc : X.calm = true) (hN : X.N.Nodup) (hi : PI X tg iter wi) (ok : BlkOk X.N X.env.scope scope own) (hv : ∀ i ∈ vs1, i ∈ own.map (·.2))
    (hg : ∀ (s : Shared) (H : Hp) (C : Addr) (cl : List (Str × Addr)) (fp : List Addr), PG (X.blk s H scope (compEnvC scope cl C X.env) fp) tg g) (ht : ∀ (s : Shared) (H : Hp) (C : Addr) (cl : List (Str × Addr)) (fp : List Addr), PTs (X.blk s H scope (compEnvC scope cl C X.env) fp) ifs tt)
    (hi1 : ∀ (s : Shared) (H : Hp) (C : Addr) (cl : List (Str × Addr)) (fp : List Addr), PI (X.blk s H scope (compEnvC scope cl C X.env) fp) tg1 iter1 wi1)
    (hg1 : ∀ (s : Shared) (H : Hp) (C : Addr) (cl : List (Str × Addr)) (fp : List Addr), PG (X.blk s H scope (compEnvC scope cl C X.env) fp) tg1 g1) (ht1 : ∀ (s : Shared) (H : Hp) (C : Addr) (cl : List (Str × Addr)) (fp : List Addr), PTs (X.blk s H scope (compEnvC scope cl C X.env) fp) ifs1 tt1)
    (he : ∀ (s : Shared) (H : Hp) (C : Addr) (cl : List (Str × Addr)) (fp : List Addr), PE (X.blk s H scope (compEnvC scope cl C X.env) fp) elt te) (hs : ∀ x, foldedSetIterable iter X.env x = pure x := by intro _; rfl) (hs1 : ∀ env x, foldedSetIterable iter1 env x = pure x := by intro _ _; rfl) :
    PE X (sc2 elt tg iter tg1 iter1 ifs ifs1 scope pos) (tSc2 X.w wi g tt wi1 g1 tt1 te (own.map (·.2)) vs1) := by
  refine ⟨fun pins s σ H Q I h => ?_⟩
  rw [PpSet.eval_SetComp]
  have hfree : ∀ y ∈ scope.names, y.2 = .free → ∃ c, X.env.cells.lookup y.1 = some c := fun y hy e => by
    rcases ok.free y hy e with k | k
    · exact I.ok.has _ (.inl k)
    · exact I.ok.has _ (.inr k)
  refine wpAny_comprehension_free (use := none) rfl hs (closure_ok hfree) ok.kind (fun y hy e => by rw [ok.uniq y hy, e])
    (thn (hi.run pins s σ H _ I h) fun xv s1 hx => thn hx fun itv s2 h2 => ?_)
  obtain ⟨it, fp, tn, J, H2, e, I2, T, st2, f2, q⟩ := h2
  subst e
  refine PpSet.newSet_ok (newEnv_comp ?_)
  generalize hD : s2.heap.objs.size = D
  have hDn : H2 D = none := I2.hok.fresh (Nat.le_of_eq hD)
  obtain ⟨W, ⟨m0, w0⟩, turn⟩ := q D hDn
  generalize hs3 : ({ s2 with heap := s2.heap.push { cls := .type "set", dict := none, data := .set #[] 0 (.fresh 0 0 (!X.w.params.followText "set-order")) } } : Shared) = s3
  have I3 : Inv X pins σ (upd H2 D (SetO X.w D (fun _ => false) 0)) s3 := by
    rw [← hs3]
    refine I2.laid (t' := s2.toks) (fun b o e => Heap.get?_push_of_some _ e) (Nat.le_of_eq hD) ?_
    rw [← hD]
    exact setO_new (setR_fresh X.w)
  have h3 : s3.heap = s2.heap.push { cls := .type "set", dict := none, data := .set #[] 0 (.fresh 0 0 (!X.w.params.followText "set-order")) } := by rw [← hs3]
  have f3 : ∀ b ∈ fp, FpOk X pins (upd H2 D (SetO X.w D (fun _ => false) 0)) b ∧ b < s3.heap.objs.size := fun b hb => by
    have hlt : b < s2.heap.objs.size := by
      obtain ⟨o, e, _⟩ := T.obj _ _ st2 b hb
      exact Heap.lt_size e
    refine ⟨⟨?_, (f2 b hb).2⟩, by rw [h3, Heap.size_push]; exact Nat.lt_succ_of_lt hlt⟩
    rw [upd_ne (by rw [← hD]; exact Nat.ne_of_lt hlt)]
    exact (f2 b hb).1
  have st3 : tn 0 s3.heap := T.keep _ _ _ st2 fun b _ o e => by rw [h3]; exact Heap.get?_push_of_some _ e
  have I4 := block_start I3 ok hN f3
  generalize hH3 : upd H2 D (SetO X.w D (fun _ => false) 0) = H3 at I3 I4 w0 f3
  generalize hcl : cellsFrom (s3.heap.objs.size + 1) scope.names (cloFrom X.env.cells scope.names []) = cl at I4 ⊢
  have pg := hg s3 H3 s3.heap.objs.size cl fp
  have pt := ht s3 H3 s3.heap.objs.size cl fp
  have pe := he s3 H3 s3.heap.objs.size cl fp
  have pi1 := hi1 s3 H3 s3.heap.objs.size cl fp
  have pg1 := hg1 s3 H3 s3.heap.objs.size cl fp
  have pt1 := ht1 s3 H3 s3.heap.objs.size cl fp
  have nfp : ∀ b ∈ fp, H3 b = none := fun b hb => (f3 b hb).1.1
  show codeAny _ _ (.compStart (sc2 elt tg iter tg1 iter1 ifs ifs1 scope pos) 0 (.ref it) (.ref D) (compEnvC scope cl s3.heap.objs.size X.env)) (compPost (model X.prog X.w) X.A X.xe none (EP X pins σ Q) (.ref D) s3.heap.objs.size) { s3 with heap := pushCells (s3.heap.push { cls := .type "dict", data := .dict #[] }) scope.names }
  generalize hce : compEnvC scope cl s3.heap.objs.size X.env = ce at I4 pg pt pe pi1 pg1 pt1 ⊢
  have cL : ce.locals = s3.heap.objs.size := by subst hce; rfl
  generalize hs4 : ({ s3 with heap := pushCells (s3.heap.push { cls := .type "dict", data := .dict #[] }) scope.names } : Shared) = s4 at I4 ⊢
  have st4 : tn 0 s4.heap := T.keep _ _ _ st3 fun b _ o e => by rw [← hs4]; exact pushCells_keeps _ _ _ _ (Heap.get?_push_of_some _ e)
  have stat : ∀ {σ' : L2.St} {H' : Hp} {s' : Shared}, Inv (X.blk s3 H3 scope ce fp) [] σ' H' s' → (∀ b ∈ fp, H' b = none) → ∀ b ∈ fp, FpOk (X.blk s3 H3 scope ce fp) [] H' b := fun {σ' H' s'} I' hn b hb =>
    ⟨hn b hb, (I'.ok.exf b hb).1, I'.ok.exfs b hb, .inl hb, fun x c e => (I'.ok.exf b hb).2 x c e, fun p hp => absurd (show p ∈ ([] : List (Addr × Obj)) ++ [] from hp) (by simp)⟩
  have loop : codeAny (model X.prog X.w) X.A (.compLoop (sc2 elt tg iter tg1 iter1 ifs ifs1 scope pos) 0 (.ref it) (.ref D) ce) (compPost (model X.prog X.w) X.A X.xe none (EP X pins σ Q) (.ref D) s3.heap.objs.size) s4 := by
    refine loop_out (hs1 ce) (fun n s' => ∃ i H', Inv (X.blk s3 H3 scope ce fp) [] (wipe σ (own.map (·.2))) H' s' ∧ tn i s'.heap ∧ (∀ b ∈ fp, H' b = none) ∧ W i n H') ?_ m0 ⟨0, H3, I4, st4, nfp, w0⟩
    rintro n s5 ⟨i, H5, I5, st5, n5, w5⟩
    rcases turn i n H5 w5 with ⟨stop, qq⟩ | ⟨go, Nx, hNx, step⟩
    · refine thnF (T.done (X.blk s3 H3 scope ce fp) rfl rfl rfl hc i [] s5 _ H5 (fun _ _ => False) I5 (stat I5 n5) st5 stop) fun r s6 ⟨hr, I6⟩ => ?_
      subst hr
      have I7 : Inv X pins σ H5 s6 := I3.call' (ch := fp) I6.os I6.base I6.hok I6.bare fun b hb => ⟨(f3 b hb).1.2.2.2.1, (f3 b hb).1.2.1, (f3 b hb).1.2.2.2.2.1, (f3 b hb).1.2.2.2.2.2⟩
      have nC : H5 s3.heap.objs.size = none := by
        have z : H5 ce.locals = none := I6.free
        rwa [cL] at z
      obtain ⟨m, hn, _⟩ := I6.loc
      have hn : s6.heap.Ns ce.locals m := hn
      rw [cL] at hn
      obtain ⟨f0, f1, f2', f3', f4, f5⟩ := I3.fpOk (Nat.le_refl _) nC
      exact ⟨m, hn, fun h'' sb => ⟨.ref D, H5, I7.turned (t' := s6.toks) (fun b o hb e => (sb.2 b hb).trans e) f0 f1 f3' f4 f5, rfl, qq⟩⟩
    · refine thnF (T.item (X.blk s3 H3 scope ce fp) rfl rfl rfl hc i [] s5 _ H5 (fun _ _ => False) I5 (stat I5 n5) st5 go) fun r s6 ⟨u, hr, h6⟩ => ?_
      subst hr
      refine thnF h6 fun _ s7 ⟨x, H7, I7, r7, y7, st7, n7⟩ => ?_
      have I7' := I7.pinned (stat I7 n7) (T.obj _ _ st7)
      refine thnF (pg.run _ s7 _ H7 x u _ I7' r7 (step x H7 y7)) fun _ s8 ⟨σ8, H8, I8, hw8, q8⟩ => ?_
      refine thnF (pt.run _ s8 σ8 H8 _ I8 q8) fun b s9 ⟨H9, I9, q9⟩ => ?_
      have fin : ∀ {σ9 : L2.St} {s' : Shared} {H' : Hp}, Inv (X.blk s3 H3 scope ce fp) ([] ++ pinsAt fp s7.heap) σ9 H' s' → (wipe σ (own.map (·.2))).length = σ9.length → (∀ (j : Nat) v, (wipe σ (own.map (·.2)))[j]? = some (some v) → σ9[j]? = some (some v)) → Nx H' →
          ∃ m, m < n ∧ ∃ i H', Inv (X.blk s3 H3 scope ce fp) [] (wipe σ (own.map (·.2))) H' s' ∧ tn i s'.heap ∧ (∀ b ∈ fp, H' b = none) ∧ W i m H' := fun {σ9 s' H'} I' hl hk nx => by
        obtain ⟨m', hm, w'⟩ := hNx H' nx
        have pin' : ∀ b ∈ fp, ∀ o, s7.heap.get? b = some o → s'.heap.get? b = some o ∧ H' b = none := fun b hb o e =>
          let z := I'.pin (b, o) (List.mem_append_right _ (List.mem_append_right _ (mem_pinsAt hb e)))
          ⟨z.1, z.2.1⟩
        refine ⟨m', hm, i + 1, H', (I'.unpinned (pins := [])).weak hl hk, T.keep _ _ _ st7 fun b hb o e => (pin' b hb o e).1, fun b hb => ?_, w'⟩
        obtain ⟨o, e, _⟩ := T.obj _ _ st7 b hb
        exact (pin' b hb o e).2
      have hl8 : (wipe σ (own.map (·.2))).length = σ8.length := by rw [← hw8, wipe_length]
      have hk8 : ∀ (j : Nat) v, (wipe σ (own.map (·.2)))[j]? = some (some v) → σ8[j]? = some (some v) := fun j v e => by
        rw [← hw8] at e
        exact (wipe_some e).1
      have hk9 : ∀ (j : Nat) v, (wipe σ (own.map (·.2)))[j]? = some (some v) → (wipe σ8 vs1)[j]? = some (some v) := fun j v e => by
        rw [← hw8] at e
        obtain ⟨e1, e2⟩ := wipe_some e
        rw [wipe_out fun z => e2 (hv j z)]
        exact e1
      cases b with
      | false =>
        simp only [Bool.false_eq_true, if_false] at q9 ⊢
        exact fin I9 hl8 hk8 q9
      | true =>
        simp only [if_true] at q9 ⊢
        refine thnF (pi1.run _ s9 σ8 H9 _ I9 q9) fun xv s10 hx => thnF hx fun itv s11 h11 => ?_
        obtain ⟨it1, fp1, tn1, J1, H11, e1, I11, T1, st11, f11, W1, ⟨m1, w1⟩, turn1⟩ := h11
        subst e1
        have stat1 : ∀ {H' : Hp}, (∀ b ∈ fp1, H' b = none) → ∀ b ∈ fp1, FpOk (X.blk s3 H3 scope ce fp) ([] ++ pinsAt fp s7.heap) H' b := fun hn b hb => ⟨hn b hb, (f11 b hb).2⟩
        have loop1 : codeAny (model X.prog X.w) X.A (.compLoop (sc2 elt tg iter tg1 iter1 ifs ifs1 scope pos) 1 (.ref it1) (.ref D) ce)
            (fun r s' => match r with
              | .ok _ => ∃ m, m < n ∧ ∃ i H', Inv (X.blk s3 H3 scope ce fp) [] (wipe σ (own.map (·.2))) H' s' ∧ tn i s'.heap ∧ (∀ b ∈ fp, H' b = none) ∧ W i m H'
              | .error _ => False) s11 := by
          refine loop_in (fun k s' => ∃ j H', Inv (X.blk s3 H3 scope ce fp) ([] ++ pinsAt fp s7.heap) (wipe σ8 vs1) H' s' ∧ tn1 j s'.heap ∧ (∀ b ∈ fp1, H' b = none) ∧ W1 j k H') ?_ m1 ⟨0, H11, I11.weak (wipe_length _ _) (fun j v e => (wipe_some e).1), st11, fun b hb => (f11 b hb).1, w1⟩
          rintro k s12 ⟨j, H12, I12, st12, n12, w12⟩
          rcases turn1 j k H12 w12 with ⟨stop1, nx1⟩ | ⟨go1, Nx1, hNx1, step1⟩
          · refine thnF (T1.done (X.blk s3 H3 scope ce fp) rfl rfl rfl hc j _ s12 (wipe σ8 vs1) H12 (fun _ _ => False) I12 (stat1 n12) st12 stop1) fun r s13 ⟨hr, I13⟩ => ?_
            subst hr
            exact fin I13 (hl8.trans (wipe_length σ8 vs1).symm) hk9 nx1
          · refine thnF (T1.item (X.blk s3 H3 scope ce fp) rfl rfl rfl hc j _ s12 (wipe σ8 vs1) H12 (fun _ _ => False) I12 (stat1 n12) st12 go1) fun r s13 ⟨u1, hr, h13⟩ => ?_
            subst hr
            refine thnF h13 fun _ s14 ⟨x1, H14, I14, r14, y14, st14, n14⟩ => ?_
            have I14' := I14.pinned (stat1 n14) (T1.obj _ _ st14)
            refine thnF (pg1.run _ s14 (wipe σ8 vs1) H14 x1 u1 _ I14' r14 (step1 x1 H14 y14)) fun _ s15 ⟨σ15, H15, I15, hw15, q15⟩ => ?_
            refine thnF (pt1.run _ s15 σ15 H15 _ I15 q15) fun b1 s16 ⟨H16, I16, q16⟩ => ?_
            have fin1 : ∀ {s' : Shared} {H' : Hp}, Inv (X.blk s3 H3 scope ce fp) (([] ++ pinsAt fp s7.heap) ++ pinsAt fp1 s14.heap) σ15 H' s' → Nx1 H' → ∃ m, m < k ∧ ∃ j H', Inv (X.blk s3 H3 scope ce fp) ([] ++ pinsAt fp s7.heap) (wipe σ8 vs1) H' s' ∧ tn1 j s'.heap ∧ (∀ b ∈ fp1, H' b = none) ∧ W1 j m H' := fun {s' H'} I' nx => by
              obtain ⟨m', hm, w'⟩ := hNx1 H' nx
              have pin' : ∀ b ∈ fp1, ∀ o, s14.heap.get? b = some o → s'.heap.get? b = some o ∧ H' b = none := fun b hb o e =>
                let z := I'.pin (b, o) (List.mem_append_right _ (List.mem_append_right _ (mem_pinsAt hb e)))
                ⟨z.1, z.2.1⟩
              refine ⟨m', hm, j + 1, H', I'.unpinned.weak (by rw [← hw15, wipe_length]) (fun j v e => by rw [← hw15] at e; exact (wipe_some e).1), T1.keep _ _ _ st14 fun b hb o e => (pin' b hb o e).1, fun b hb => ?_, w'⟩
              obtain ⟨o, e, _⟩ := T1.obj _ _ st14 b hb
              exact (pin' b hb o e).2
            cases b1 with
            | false =>
              simp only [Bool.false_eq_true, if_false] at q16 ⊢
              exact fin1 I16 q16
            | true =>
              simp only [if_true] at q16 ⊢
              refine thnF (pe.run _ s16 σ15 H16 _ I16 q16) fun z s17 ⟨yv, H17, I17, r17, c, S0, n0, ey, hD17, hz17, nx⟩ => ?_
              subst ey
              obtain ⟨tk, rfl⟩ := r17
              exact addI_ok (X := X.blk s3 H3 scope ce fp) I17 hD17 hz17 fun s18 I18 => fin1 I18 nx
        exact start_in loop1 (T1.self X.A 0 _ _ _ st11 loop1)
  exact PpSet.codeAny_compStart_set loop (T.self X.A 0 _ _ _ st4 loop)
end
end L3
namespace L3
open PySem PySem.Spec PyProof.Rows L2
/-- what is gathered: how it lies in the heap, what it takes to put one more -/
structure Acc (K : PySem.W.Frag) (G : Gx) (α : Type) where
  At : List Addr → Hp → Addr → α → Prop
  ad : α → RD → (α → Prop) → Prop
  put : Addr → V → Hp → (Hp → Prop) → Prop
  o0 : Addr → HO
  a0 : α
  start : ∀ M H p, At M (upd H p (o0 p)) p a0
  mono : ∀ M H H' p a, At M H p a → (∀ o, H p = some o → H' p = some o) → Same (mask M H) (mask M H') → At M H' p a
  step : ∀ M H p a v r N Nx, p ∈ M → At M H p a → RB K G M H v r.d → (¬ r.bor → Rep K G (mask M H) v r.d) → ad a r N → (∀ o a', N a' → At M (upd H p o) p a' → Nx (upd H p o)) → put p v H Nx
section
variable {K : PySem.W.Frag} {G : Gx} {E : Ent} {α : Type}
def c2In (ad : α → RD → (α → Prop) → Prop) (g : WG) (t : WT) (w : WE) (vs : List Nat) (Q : α → St3 → Prop) : List D → α → St3 → Prop
  | [], acc, δ => Q acc δ
  | x :: r, acc, δ => g x δ fun δ1 => t δ1 fun k δ2 => (k = true → w δ2 fun q δ3 => ad acc q fun acc' => c2In ad g t w vs Q r acc' ⟨wipe3 δ3.sl vs, δ3.n⟩) ∧ (k = false → c2In ad g t w vs Q r acc ⟨wipe3 δ2.sl vs, δ2.n⟩)
def c2Out (ad : α → RD → (α → Prop) → Prop) (g : WG) (t : WT) (wi1 : WI) (g1 : WG) (t1 : WT) (w : WE) (vs vs1 : List Nat) (Q : α → St3 → Prop) : List D → α → St3 → Prop
  | [], acc, δ => Q acc δ
  | x :: r, acc, δ => g x δ fun δ1 => t δ1 fun k δ2 => (k = true → wi1 δ2 fun es δ3 => c2In ad g1 t1 w vs1 (fun acc' δ4 => c2Out ad g t wi1 g1 t1 w vs vs1 Q r acc' ⟨wipe3 δ4.sl vs, δ4.n⟩) es acc ⟨wipe3 δ3.sl vs1, δ3.n⟩) ∧
    (k = false → c2Out ad g t wi1 g1 t1 w vs vs1 Q r acc ⟨wipe3 δ2.sl vs, δ2.n⟩)
def tC2 (o0 : Addr → HO) (put : Addr → V → Hp → (Hp → Prop) → Prop) (wi : TI) (g : TG) (tt : TT) (wi1 : TI) (g1 : TG) (tt1 : TT) (te : TE) (vs vs1 : List Nat) : TE := fun σ H Q => wi σ H fun J H1 => ∀ D, H1 D = none → ∃ W : Nat → Nat → Hp → Prop, (∃ m, W 0 m (upd H1 D (o0 D))) ∧ ∀ i m H, W i m H →
  (J.stop i H ∧ Q (.ref D) H) ∨ (J.go i H ∧ ∃ Nx : Hp → Prop, (∀ H', Nx H' → ∃ m', m' < m ∧ W (i + 1) m' H') ∧ ∀ x H', J.yld i H x H' → g x (wipe σ vs) H' fun σ2 H2 => wipe σ2 vs = wipe σ vs ∧ tt σ2 H2 fun b H3 =>
    if b = true then wi1 σ2 H3 fun J1 H4 => ∃ W1 : Nat → Nat → Hp → Prop, (∃ m, W1 0 m H4) ∧ ∀ j k H, W1 j k H →
      (J1.stop j H ∧ Nx H) ∨ (J1.go j H ∧ ∃ Nx1 : Hp → Prop, (∀ H', Nx1 H' → ∃ k', k' < k ∧ W1 (j + 1) k' H') ∧ ∀ x H', J1.yld j H x H' → g1 x (wipe σ2 vs1) H' fun σ3 H5 => wipe σ3 vs1 = wipe σ2 vs1 ∧ tt1 σ3 H5 fun b H6 =>
        if b = true then te σ3 H6 fun y H7 => put D y H7 Nx1 else Nx1 H6)
    else Nx H3)
theorem wipe_sub {σ : L2.St} {vs vs1 : List Nat} (h : ∀ v ∈ vs1, v ∈ vs) : wipe (wipe σ vs1) vs = wipe σ vs := by
  apply List.ext_getElem?
  intro j
  by_cases q : j ∈ vs
  · rw [wipe_in q, wipe_in q, wipe_length]
  · rw [wipe_get q, wipe_get q, wipe_get fun z => q (h j z)]
theorem SR.put {am : Nat → Addr} {M : List Addr} {σ : L2.St} {δ : St3} {H : Hp} {p : Addr} {o : HO} (S : SR K G E am M σ δ H) (hp : p ∈ M) (hd : p ∉ G.dk) (h0 : E.H0 p = none) (ho : ∀ i, isOwn δ i → am i ≠ p) : SR K G E am M σ δ (upd H p o) where
  len := S.len
  sh := fun j d h => by rw [mask_upd hp]; exact S.sh j d h
  ow := fun j d h => by
    obtain ⟨a1, a2, a3, a4, a5⟩ := S.ow j d h
    refine ⟨a1, a2, a3, a4, a5.to (by rw [mask_upd hp]; exact Same.refl _) fun o e => ?_⟩
    rw [upd_ne (ho j ⟨d, h⟩)]; exact e
  inj := S.inj
  ads := S.ads
  dks := S.dks
  al := fun a ha => by
    by_cases z : a = p
    · subst z; rw [upd_same]; simp
    · rw [upd_ne z]; exact S.al a ha
  base := fun b o hb kb => by
    have ne : b ≠ p := fun z => by subst z; rw [h0] at hb; cases hb
    rw [upd_ne ne]; exact S.base b o hb kb
  di := G.frame _ _ _ (fun a ha o e => by rw [upd_ne fun z => hd (by rw [← z]; exact ha)]; exact e) S.di
  gh := fun g hg => by rw [mask_upd hp]; exact S.gh g hg
  slf := S.slf
set_option maxHeartbeats 4000000 in
/-- the program's loops go as the data's -/
theorem sim_c2 (A : Acc K G α) {ti ti1 : TI} {wi wi1 : WI} {g g1 : TG} {wg wg1 : WG} {us us1 vs vs1 : List Nat} {tt tt1 : TT} {wt wt1 : WT} {te : TE} {we : WE} (hi : ∀ E, SimI K G E ti wi) (hg : SimG K G us g wg) (hu : ∀ u ∈ us, u ∈ vs) (ht : ∀ E, SimT K G E tt wt)
    (hi1 : ∀ E, SimI K G E ti1 wi1) (hg1 : SimG K G us1 g1 wg1) (hu1 : ∀ u ∈ us1, u ∈ vs1) (hv : ∀ u ∈ vs1, u ∈ vs) (ht1 : ∀ E, SimT K G E tt1 wt1) (he : ∀ E, SimE K G E te we)
    (am : Nat → Addr) (M : List Addr) (σ : L2.St) (δ : St3) (H : Hp) (S : SR K G E am M σ δ H) (Qd : α → St3 → Prop) (q : wi δ fun ds δ1 => noOwn δ1.sl vs ∧ c2Out A.ad wg wt wi1 wg1 wt1 we vs vs1 (fun acc δ2 => Qd acc ⟨unwipe δ1.sl δ2.sl vs, δ2.n⟩) ds A.a0 ⟨wipe3 δ1.sl vs, δ1.n⟩) (Q : VK)
    (k : ∀ (p : Addr) (acc : α) (δ' : St3) (H' : Hp), SR K G E am M σ δ' H' → SR K G E am (p :: M) σ δ' H' → p ∉ M → E.H0 p = none → p ∉ G.dk → A.At (p :: M) H' p acc → Ext G am δ H H' → (∀ i, isOwn δ' i → isOwn δ i) → Qd acc δ' → Q (.ref p) H') : tC2 A.o0 A.put ti g tt ti1 g1 tt1 te vs vs1 σ H Q := by
  refine hi E am M σ δ H S _ q _ fun J items gh δ1 H1 S1 e1 o1 ok ⟨no, q⟩ => fun p hp => ?_
  have sm := same_new (o := A.o0 p) hp
  have T0 := S1.more (p := p) hp sm (by rw [upd_same]; simp)
  have T1 := T0.wiped vs
  have pM : p ∉ M := fun z => S1.al p z hp
  have pOwn : ∀ i, isOwn δ1 i → am i ≠ p := fun i ⟨d, hi⟩ z => pM (z ▸ (S1.ow i d hi).2.1)
  have pDk : p ∉ G.dk := fun z => pM (S1.ads p (S1.dks p z))
  have pH0 : E.H0 p = none := by
    cases z : E.H0 p with
    | none => rfl
    | some o => exact absurd (S1.base p o z pDk) (by rw [hp]; simp)
  refine ⟨fun i m H => m = items.length - i ∧ i ≤ items.length ∧ ∃ (δ : St3) (acc : α), SR K G (E.add gh) am (p :: M) (wipe σ vs) δ H ∧ A.At (p :: M) H p acc ∧
      Ext G am δ1 H1 H ∧ (∀ i, isOwn δ i → isOwn δ1 i) ∧ c2Out A.ad wg wt wi1 wg1 wt1 we vs vs1 (fun acc δ2 => Qd acc ⟨unwipe δ1.sl δ2.sl vs, δ2.n⟩) (items.drop i) acc δ,
    ⟨_, rfl, Nat.zero_le _, _, _, T1, A.start _ _ _, Ext.of sm, fun i z => wipe3_own z, q⟩, ?_⟩
  rintro i m H ⟨rfl, hle, δ, acc, S, hx, ex, ox, q⟩
  obtain ⟨j1, j2⟩ := ok _ _ _ _ _ _ S fun p hp => List.mem_append_left _ hp
  by_cases hlt : i < items.length
  · have hd : items[i]? = some items[i] := List.getElem?_eq_getElem hlt
    obtain ⟨g1', g2⟩ := j2 i _ hd
    rw [List.drop_eq_getElem_cons hlt] at q
    refine .inr ⟨g1', fun H' => ∃ (δ : St3) (acc : α), SR K G (E.add gh) am (p :: M) (wipe σ vs) δ H' ∧ A.At (p :: M) H' p acc ∧
      Ext G am δ1 H1 H' ∧ (∀ i, isOwn δ i → isOwn δ1 i) ∧ c2Out A.ad wg wt wi1 wg1 wt1 we vs vs1 (fun acc δ2 => Qd acc ⟨unwipe δ1.sl δ2.sl vs, δ2.n⟩) (items.drop (i + 1)) acc δ, fun H' z => ⟨_, by omega, rfl, hlt, z⟩, fun x H' hy => ?_⟩
    obtain ⟨sm2, rx2⟩ := g2 x H' hy
    have S' := S.grow sm2
    refine hg _ am (p :: M) _ δ H' S' x _ rx2 _ q _ fun σ2 δ2 S2 w2 o2 q => ?_
    have hw : wipe σ2 vs = wipe σ vs := (w2 vs hu).trans wipe_wipe
    refine ⟨hw, ?_⟩
    refine ht _ am (p :: M) σ2 δ2 H' S2 _ q _ fun b δ3 H3 S3 e3 o3 q => ?_
    have keep : ∀ {Ha Hb : Hp} {δa : St3}, Ext G am δa Ha Hb → (∀ i, isOwn δa i → isOwn δ1 i) → ∀ o, Ha p = some o → Hb p = some o := fun e o u hu => e p u hu pDk fun i hi => pOwn i (o i hi)
    have own2 : ∀ i, isOwn δ2 i → isOwn δ1 i := fun i z => ox i (o2 i z)
    have own3 : ∀ i, isOwn δ3 i → isOwn δ1 i := fun i z => own2 i (o3 i z)
    have ext3 : Ext G am δ1 H1 H3 := (ex.trans ox (Ext.of (δ := δ) sm2)).trans own2 e3
    have hx3 : A.At (p :: M) H3 p acc := A.mono _ _ _ _ _ (A.mono _ _ _ _ _ hx (fun o e => sm2 _ _ e) (mask_mono sm2)) (keep e3 own2) (S2.mask e3)
    cases b with
    | false =>
      rw [if_neg Bool.false_ne_true]
      have T := S3.wiped vs
      rw [hw] at T
      exact ⟨_, acc, T, hx3, ext3, fun i z => own3 i (wipe3_own z), q.2 rfl⟩
    | true =>
      rw [if_pos rfl]
      refine hi1 _ am (p :: M) σ2 δ3 H3 S3 _ (q.1 rfl) _ fun J1 es gh1 δ4 H4 S4 e4 o4 ok1 q => ?_
      have own4 : ∀ i, isOwn δ4 i → isOwn δ1 i := fun i z => own3 i (o4 i z)
      have ext4 : Ext G am δ1 H1 H4 := ext3.trans own3 e4
      have hx4 : A.At (p :: M) H4 p acc := A.mono _ _ _ _ _ hx3 (keep e4 own3) (S3.mask e4)
      refine ⟨fun j m H => m = es.length - j ∧ j ≤ es.length ∧ ∃ (δ : St3) (acc : α), SR K G ((E.add gh).add gh1) am (p :: M) (wipe σ2 vs1) δ H ∧ A.At (p :: M) H p acc ∧
        Ext G am δ1 H1 H ∧ (∀ i, isOwn δ i → isOwn δ1 i) ∧ c2In A.ad wg1 wt1 we vs1 (fun acc' δ4 => c2Out A.ad wg wt wi1 wg1 wt1 we vs vs1 (fun acc δ2 => Qd acc ⟨unwipe δ1.sl δ2.sl vs, δ2.n⟩) (items.drop (i + 1)) acc' ⟨wipe3 δ4.sl vs, δ4.n⟩) (es.drop j) acc δ,
        ⟨_, rfl, Nat.zero_le _, _, acc, S4.wiped vs1, hx4, ext4, fun i z => own4 i (wipe3_own z), q⟩, ?_⟩
      rintro j m H ⟨rfl, hle1, δ, acc, S, hx, ex, ox, q⟩
      obtain ⟨k1, k2⟩ := ok1 _ _ _ _ _ _ S fun p hp => List.mem_append_left _ hp
      by_cases hlt1 : j < es.length
      · have hd1 : es[j]? = some es[j] := List.getElem?_eq_getElem hlt1
        obtain ⟨g3, g4⟩ := k2 j _ hd1
        rw [List.drop_eq_getElem_cons hlt1] at q
        refine .inr ⟨g3, fun H' => ∃ (δ : St3) (acc : α), SR K G ((E.add gh).add gh1) am (p :: M) (wipe σ2 vs1) δ H' ∧ A.At (p :: M) H' p acc ∧
          Ext G am δ1 H1 H' ∧ (∀ i, isOwn δ i → isOwn δ1 i) ∧ c2In A.ad wg1 wt1 we vs1 (fun acc' δ4 => c2Out A.ad wg wt wi1 wg1 wt1 we vs vs1 (fun acc δ2 => Qd acc ⟨unwipe δ1.sl δ2.sl vs, δ2.n⟩) (items.drop (i + 1)) acc' ⟨wipe3 δ4.sl vs, δ4.n⟩) (es.drop (j + 1)) acc δ,
          fun H' z => ⟨_, by omega, rfl, hlt1, z⟩, fun x H' hy => ?_⟩
        obtain ⟨sm5, rx5⟩ := g4 x H' hy
        have S' := S.grow sm5
        refine hg1 _ am (p :: M) _ δ H' S' x _ rx5 _ q _ fun σ3 δ5 S5 w5 o5 q => ?_
        have hw1 : wipe σ3 vs1 = wipe σ2 vs1 := (w5 vs1 hu1).trans wipe_wipe
        refine ⟨hw1, ?_⟩
        refine ht1 _ am (p :: M) σ3 δ5 H' S5 _ q _ fun b δ6 H6 S6 e6 o6 q => ?_
        have own5 : ∀ i, isOwn δ5 i → isOwn δ1 i := fun i z => ox i (o5 i z)
        have own6 : ∀ i, isOwn δ6 i → isOwn δ1 i := fun i z => own5 i (o6 i z)
        have ext6 : Ext G am δ1 H1 H6 := (ex.trans ox (Ext.of (δ := δ) sm5)).trans own5 e6
        have hx6 : A.At (p :: M) H6 p acc := A.mono _ _ _ _ _ (A.mono _ _ _ _ _ hx (fun o e => sm5 _ _ e) (mask_mono sm5)) (keep e6 own5) (S5.mask e6)
        cases b with
        | false =>
          rw [if_neg Bool.false_ne_true]
          have T := S6.wiped vs1
          rw [hw1] at T
          exact ⟨_, acc, T, hx6, ext6, fun i z => own6 i (wipe3_own z), q.2 rfl⟩
        | true =>
          rw [if_pos rfl]
          refine he _ am (p :: M) σ3 δ6 H6 S6 _ (q.1 rfl) _ fun y ry δ7 H7 S7 e7 o7 v7 q => ?_
          have own7 : ∀ i, isOwn δ7 i → isOwn δ1 i := fun i z => own6 i (o7 i z)
          have ext7 : Ext G am δ1 H1 H7 := ext6.trans own6 e7
          have hx7 : A.At (p :: M) H7 p acc := A.mono _ _ _ _ _ hx6 (keep e7 own6) (S6.mask e7)
          refine A.step _ _ _ _ _ _ _ _ List.mem_cons_self hx7 (v7.k.rb S7) (fun nb => v7.k.rep nb) q fun o acc' q ha => ?_
          have T := (S7.put (o := o) List.mem_cons_self pDk pH0 fun i z => pOwn i (own7 i z)).wiped vs1
          rw [hw1] at T
          refine ⟨_, acc', T, ha, fun b u hb kb ho => ?_, fun i z => own7 i (wipe3_own z), q⟩
          have ne : b ≠ p := fun z => by subst z; rw [hp] at hb; cases hb
          rw [upd_ne ne]
          exact ext7 b u hb kb ho
      · have e : j = es.length := by omega
        subst e
        rw [List.drop_length] at q
        have T := S.drop.wiped vs
        rw [wipe_sub hv, hw] at T
        exact .inl ⟨k1 _ rfl, _, acc, T, hx, ex, fun i z => ox i (wipe3_own z), q⟩
  · have e : i = items.length := by omega
    subst e
    rw [List.drop_length] at q
    refine .inl ⟨j1 _ rfl, ?_⟩
    have smk : Same (mask (p :: M) H1) (mask (p :: M) H) := mask_same fun b o hb h => ex b o h (fun z => hb (List.mem_cons_of_mem _ (S1.ads b (S1.dks b z)))) fun i ⟨d, hi⟩ z => hb (z ▸ List.mem_cons_of_mem _ (S1.ow i d hi).2.1)
    have B : SR K G (E.add gh) am (p :: M) σ ⟨unwipe δ1.sl δ.sl vs, δ.n⟩ H := S1.back S (fun a z => List.mem_cons_of_mem _ z) no smk fun i d hi v hv => by
      obtain ⟨v', a, b⟩ := S1.sh i d hi
      rw [hv] at a
      cases a
      exact b.mono (mask_new hp (Same.refl _))
    have own : ∀ i, isOwn ⟨unwipe δ1.sl δ.sl vs, δ.n⟩ i → isOwn δ1 i := fun i z => ox i (unwipe_own no z)
    have B2 : SR K G (E.add gh) am M σ ⟨unwipe δ1.sl δ.sl vs, δ.n⟩ H := B.less (fun a z => List.mem_cons_of_mem _ z) S1.ads fun j d h => by
      obtain ⟨d', h'⟩ := own j ⟨d, h⟩
      exact (S1.ow j d' h').2.1
    exact k p acc _ H B2.drop B.drop pM pH0 pDk hx (e1.trans o1 ex) (fun i z => o1 i (own i z)) q
end
end L3
namespace L3
open PySem PySem.Spec PyProof.Rows L2
section
variable {K : PySem.W.Frag} {G : Gx} {E : Ent}
def adL (acc : List D) (q : RD) (N : List D → Prop) : Prop := ¬ q.bor ∧ acc.length < 16777216 ∧ N (acc ++ [q.d])
def accL (K : PySem.W.Frag) (G : Gx) : Acc K G (List D) where
  At := fun M H p acc => ∃ xs, H p = some (.lst xs) ∧ RepAll K G (mask M H) xs acc
  ad := adL
  put := fun p y H Nx => ∃ acc, H p = some (.lst acc) ∧ acc.length < sizeLine ∧ Nx (upd H p (.lst (acc ++ [y])))
  o0 := fun _ => .lst []
  a0 := []
  start := fun M H p => ⟨[], upd_same, rfl⟩
  mono := fun M H H' p a ⟨xs, h, r⟩ k m => ⟨xs, k _ h, r.mono m⟩
  step := fun M H p a v r N Nx hp ⟨xs, h, rx⟩ rb rk ⟨nb, sz, q⟩ k => ⟨xs, h, by rw [rx.length, line16]; exact sz, k _ _ q ⟨xs ++ [v], upd_same, by rw [mask_upd hp]; exact rx.append (RepAll.one (rk nb))⟩⟩
def adS (acc : List Int) (q : RD) (N : List Int → Prop) : Prop := isI q.d fun c => acc.length + 1 < 4096 ∧ N (if c ∈ acc then acc else acc ++ [c])
theorem scan4096 : scanBound = 4096 := rfl
def accS (w : World) (K : PySem.W.Frag) (G : Gx) : Acc K G (List Int) where
  At := fun M H p acc => acc.Nodup ∧ ∃ S n, H p = some (SetO w p S n) ∧ (∀ k, S k = decide (k ∈ acc)) ∧ n = acc.length
  ad := adS
  put := fun p y H Nx => ∃ (c : Int) (S : Int → Bool) (n : Nat), y = .int c ∧ H p = some (SetO w p S n) ∧ n + 1 < scanBound ∧ Nx (upd H p (SetO w p (fun j => S j || decide (j = c)) (if S c = true then n else n + 1)))
  o0 := fun p => SetO w p (fun _ => false) 0
  a0 := []
  start := fun M H p => ⟨List.nodup_nil, _, _, upd_same, fun k => by simp, rfl⟩
  mono := fun M H H' p a ⟨nd, S, n, h, r⟩ k m => ⟨nd, S, n, k _ h, r⟩
  step := fun M H p a v r N Nx hp ⟨nd, S, n, h, hS, hn⟩ rb rk q k => by
    cases er : r.d <;> (try simp only [adS, er] at q) <;> (try exact q.elim)
    rename_i c
    rw [er] at rb
    obtain ⟨sz, q⟩ := (show a.length + 1 < 4096 ∧ N (if c ∈ a then a else a ++ [c]) from q)
    refine ⟨c, S, n, rb.int, h, by rw [hn, scan4096]; exact sz, k _ _ q ?_⟩
    by_cases m : c ∈ a
    · rw [if_pos m]
      refine ⟨nd, _, _, upd_same, fun j => ?_, ?_⟩
      · rw [hS]
        by_cases z : j = c
        · subst z; simp [m]
        · simp [z]
      · rw [hS, if_pos (by simpa using m)]; exact hn
    · rw [if_neg m]
      refine ⟨List.nodup_append.mpr ⟨nd, by simp, fun x hx y hy z => by simp at hy; subst hy; subst z; exact m hx⟩, _, _, upd_same, fun j => ?_, ?_⟩
      · rw [hS]; simp
      · rw [hS, if_neg (by simpa using m)]; simp [hn]
@[simp] def wLc2 (wi : WI) (g : WG) (t : WT) (wi1 : WI) (g1 : WG) (t1 : WT) (w : WE) (vs vs1 : List Nat) : WE := fun δ Q => wi δ fun ds δ1 => noOwn δ1.sl vs ∧ c2Out adL g t wi1 g1 t1 w vs vs1 (fun acc δ2 => Q (.fr (.lst acc)) ⟨unwipe δ1.sl δ2.sl vs, δ2.n⟩) ds [] ⟨wipe3 δ1.sl vs, δ1.n⟩
@[simp] def wSortSc2 (wi : WI) (g : WG) (t : WT) (wi1 : WI) (g1 : WG) (t1 : WT) (w : WE) (vs vs1 : List Nat) : WE := fun δ Q => wi δ fun ds δ1 => noOwn δ1.sl vs ∧ c2Out adS g t wi1 g1 t1 w vs vs1 (fun acc δ2 => acc.length < 64 ∧
  ∀ ns : List Int, ns.Pairwise (· < ·) → (∀ k, k ∈ ns ↔ k ∈ acc) → Q (.fr (.lst (ns.map D.int))) ⟨unwipe δ1.sl δ2.sl vs, δ2.n⟩) ds [] ⟨wipe3 δ1.sl vs, δ1.n⟩
variable {ti ti1 : TI} {wi wi1 : WI} {g g1 : TG} {wg wg1 : WG} {us us1 vs vs1 : List Nat} {tt tt1 : TT} {wt wt1 : WT} {te : TE} {we : WE}
theorem sim_lc2 (hi : ∀ E, SimI K G E ti wi) (hg : SimG K G us g wg) (hu : ∀ u ∈ us, u ∈ vs) (ht : ∀ E, SimT K G E tt wt)
    (hi1 : ∀ E, SimI K G E ti1 wi1) (hg1 : SimG K G us1 g1 wg1) (hu1 : ∀ u ∈ us1, u ∈ vs1) (hv : ∀ u ∈ vs1, u ∈ vs) (ht1 : ∀ E, SimT K G E tt1 wt1) (he : ∀ E, SimE K G E te we) : SimE K G E (tLc2 ti g tt ti1 g1 tt1 te vs vs1) (wLc2 wi wg wt wi1 wg1 wt1 we vs vs1) := fun am M σ δ H S Qd q Q k =>
  sim_c2 (accL K G) hi hg hu ht hi1 hg1 hu1 hv ht1 he am M σ δ H S (fun acc δ2 => Qd (.fr (.lst acc)) δ2) q Q fun p acc δ' H' S' S2 pM p0 pd ha e o h =>
    k (.ref p) (.fr (.lst acc)) δ' H' S' e o ⟨p, rfl, pM, p0, ha, S2⟩ h
theorem sim_sortSc2 (w : World) (hi : ∀ E, SimI K G E ti wi) (hg : SimG K G us g wg) (hu : ∀ u ∈ us, u ∈ vs) (ht : ∀ E, SimT K G E tt wt)
    (hi1 : ∀ E, SimI K G E ti1 wi1) (hg1 : SimG K G us1 g1 wg1) (hu1 : ∀ u ∈ us1, u ∈ vs1) (hv : ∀ u ∈ vs1, u ∈ vs) (ht1 : ∀ E, SimT K G E tt1 wt1) (he : ∀ E, SimE K G E te we) : SimE K G E (tCB (rSortedSet w) (tCons (tSc2 w ti g tt ti1 g1 tt1 te vs vs1) tNil)) (wSortSc2 wi wg wt wi1 wg1 wt1 we vs vs1) := fun am M σ δ H S Qd q Q k => by
    show tC2 (accS w K G).o0 (accS w K G).put ti g tt ti1 g1 tt1 te vs vs1 σ H (fun x H1 => rSortedSet w [x] H1 Q)
    refine sim_c2 (accS w K G) hi hg hu ht hi1 hg1 hu1 hv ht1 he am M σ δ H S (fun acc δ2 => acc.length < 64 ∧ ∀ ns : List Int, ns.Pairwise (· < ·) → (∀ k, k ∈ ns ↔ k ∈ acc) → Qd (.fr (.lst (ns.map D.int))) δ2) q _ fun p acc δ' H' S' S2 pM p0 pd ⟨nd, F, n, hp, hF, hn⟩ e o ⟨h64, h⟩ => ?_
    refine ⟨p, F, n, rfl, hp, by rw [hn]; exact h64, fun ns p' h1 h2 h3 hp' => ?_⟩
    have sm := same_new (o := .lst (ns.map V.int)) hp'
    exact k (.ref p') (.fr (.lst (ns.map D.int))) δ' _ (S'.grow sm) (e.trans o (Ext.of (δ := δ') sm)) o ((rn_lst hp' (RepAll.of_ints ns)).rv S' sm) (h ns h1 fun j => by rw [h2, hF]; simp)
end
section
variable {X : Cx} {G : Gx} {elt tg iter tg1 iter1 : Expr} {ifs ifs1 : List Expr} {scope : Scope} {own : List (Str × Nat)} {vs1 us us1 : List Nat} {pos spos py p : Pos} {ti ti1 : TI} {wi wi1 : WI} {g g1 : TG} {wg wg1 : WG} {tt tt1 : TT} {wt wt1 : WT} {te : TE} {we : WE}
theorem de_lc2 (hc : X.calm = true) (hN : X.N.Nodup) (hi : DI X G tg iter ti wi) (ok : BlkOk X.N X.env.scope scope own) (hv : ∀ i ∈ vs1, i ∈ own.map (·.2))
    (hg : ∀ (s : Shared) (H : Hp) (C : Addr) (cl : List (Str × Addr)) (fp : List Addr), DG (X.blk s H scope (compEnvC scope cl C X.env) fp) G tg us g wg) (ht : ∀ (s : Shared) (H : Hp) (C : Addr) (cl : List (Str × Addr)) (fp : List Addr), DTs (X.blk s H scope (compEnvC scope cl C X.env) fp) G ifs tt wt)
    (hi1 : ∀ (s : Shared) (H : Hp) (C : Addr) (cl : List (Str × Addr)) (fp : List Addr), DI (X.blk s H scope (compEnvC scope cl C X.env) fp) G tg1 iter1 ti1 wi1)
    (hg1 : ∀ (s : Shared) (H : Hp) (C : Addr) (cl : List (Str × Addr)) (fp : List Addr), DG (X.blk s H scope (compEnvC scope cl C X.env) fp) G tg1 us1 g1 wg1) (ht1 : ∀ (s : Shared) (H : Hp) (C : Addr) (cl : List (Str × Addr)) (fp : List Addr), DTs (X.blk s H scope (compEnvC scope cl C X.env) fp) G ifs1 tt1 wt1)
    (he : ∀ (s : Shared) (H : Hp) (C : Addr) (cl : List (Str × Addr)) (fp : List Addr), DE (X.blk s H scope (compEnvC scope cl C X.env) fp) G elt te we) (hu : ∀ u ∈ us, u ∈ own.map (·.2)) (hu1 : ∀ u ∈ us1, u ∈ vs1) (hs : ∀ x, foldedSetIterable iter X.env x = pure x := by intro _; rfl) (hs1 : ∀ env x, foldedSetIterable iter1 env x = pure x := by intro _ _; rfl) :
    DE X G (.ListComp elt [⟨tg, iter, ifs, 0⟩, ⟨tg1, iter1, ifs1, 0⟩] scope pos) (tLc2 ti g tt ti1 g1 tt1 te (own.map (·.2)) vs1) (wLc2 wi wg wt wi1 wg1 wt1 we (own.map (·.2)) vs1) :=
  ⟨pe_lc2 hc hN hi.pi ok hv (fun s H C cl fp => (hg s H C cl fp).pg) (fun s H C cl fp => (ht s H C cl fp).pt) (fun s H C cl fp => (hi1 s H C cl fp).pi) (fun s H C cl fp => (hg1 s H C cl fp).pg) (fun s H C cl fp => (ht1 s H C cl fp).pt) (fun s H C cl fp => (he s H C cl fp).pe) hs hs1,
    fun E => sim_lc2 hi.sim (hg X.s_0 (fun _ => none) 0 [] []).sim hu (ht X.s_0 (fun _ => none) 0 [] []).sim (hi1 X.s_0 (fun _ => none) 0 [] []).sim (hg1 X.s_0 (fun _ => none) 0 [] []).sim hu1 hv (ht1 X.s_0 (fun _ => none) 0 [] []).sim (he X.s_0 (fun _ => none) 0 [] []).sim⟩
theorem de_sortSc2 (hc : X.calm = true) (hN : X.N.Nodup) (hi : DI X G tg iter ti wi) (ok : BlkOk X.N X.env.scope scope own) (hv : ∀ i ∈ vs1, i ∈ own.map (·.2))
    (hg : ∀ (s : Shared) (H : Hp) (C : Addr) (cl : List (Str × Addr)) (fp : List Addr), DG (X.blk s H scope (compEnvC scope cl C X.env) fp) G tg us g wg) (ht : ∀ (s : Shared) (H : Hp) (C : Addr) (cl : List (Str × Addr)) (fp : List Addr), DTs (X.blk s H scope (compEnvC scope cl C X.env) fp) G ifs tt wt)
    (hi1 : ∀ (s : Shared) (H : Hp) (C : Addr) (cl : List (Str × Addr)) (fp : List Addr), DI (X.blk s H scope (compEnvC scope cl C X.env) fp) G tg1 iter1 ti1 wi1)
    (hg1 : ∀ (s : Shared) (H : Hp) (C : Addr) (cl : List (Str × Addr)) (fp : List Addr), DG (X.blk s H scope (compEnvC scope cl C X.env) fp) G tg1 us1 g1 wg1) (ht1 : ∀ (s : Shared) (H : Hp) (C : Addr) (cl : List (Str × Addr)) (fp : List Addr), DTs (X.blk s H scope (compEnvC scope cl C X.env) fp) G ifs1 tt1 wt1)
    (he : ∀ (s : Shared) (H : Hp) (C : Addr) (cl : List (Str × Addr)) (fp : List Addr), DE (X.blk s H scope (compEnvC scope cl C X.env) fp) G elt te we) (hu : ∀ u ∈ us, u ∈ own.map (·.2)) (hu1 : ∀ u ∈ us1, u ∈ vs1) (hgl : Gl X "sorted") (hm : X.mg "sorted" = none)
    (hs : ∀ x, foldedSetIterable iter X.env x = pure x := by intro _; rfl) (hs1 : ∀ env x, foldedSetIterable iter1 env x = pure x := by intro _ _; rfl)
    (he1 : starEach [sc2 elt tg iter tg1 iter1 ifs ifs1 scope spos] X.env = (false, eval (sc2 elt tg iter tg1 iter1 ifs ifs1 scope spos) X.env) :: starEach [] X.env := by rfl) :
    DE X G (.Call (.Name "sorted" p) [.SetComp elt [⟨tg, iter, ifs, 0⟩, ⟨tg1, iter1, ifs1, 0⟩] scope spos] [] pos) (tCB (rSortedSet X.w) (tCons (tSc2 X.w ti g tt ti1 g1 tt1 te (own.map (·.2)) vs1) tNil)) (wSortSc2 wi wg wt wi1 wg1 wt1 we (own.map (·.2)) vs1) :=
  ⟨pe_callB (cr_sortedSet hc) hgl hm rfl (pa_cons (pe_sc2 hc hN hi.pi ok hv (fun s H C cl fp => (hg s H C cl fp).pg) (fun s H C cl fp => (ht s H C cl fp).pt) (fun s H C cl fp => (hi1 s H C cl fp).pi) (fun s H C cl fp => (hg1 s H C cl fp).pg) (fun s H C cl fp => (ht1 s H C cl fp).pt) (fun s H C cl fp => (he s H C cl fp).pe) hs hs1) pa_nil he1) (by decide) (by decide) he1 (by rfl),
    fun E => sim_sortSc2 X.w hi.sim (hg X.s_0 (fun _ => none) 0 [] []).sim hu (ht X.s_0 (fun _ => none) 0 [] []).sim (hi1 X.s_0 (fun _ => none) 0 [] []).sim (hg1 X.s_0 (fun _ => none) 0 [] []).sim hu1 hv (ht1 X.s_0 (fun _ => none) 0 [] []).sim (he X.s_0 (fun _ => none) 0 [] []).sim⟩
end
end L3
namespace L3
open PySem PySem.Spec PyProof.Rows L2
def keyD : Key → D
  | .inl i => .int i
  | .inr s => .str s
@[simp] theorem keyD_0 (i : Int) : keyD (.inl i) = .int i := rfl
@[simp] theorem keyD_1 (i : Str) : keyD (.inr i) = .str i := rfl
def isK : D → (Key → Prop) → Prop
  | .int i, Q => Q (.inl i)
  | .str s, Q => Q (.inr s)
  | _, _ => False
@[simp] theorem isK_0 (i : Int) (Q : Key → Prop) : isK (.int i) Q = Q (.inl i) := rfl
@[simp] theorem isK_1 (i : Str) (Q : Key → Prop) : isK (.str i) Q = Q (.inr i) := rfl
def isDct : D → (List Key → List D → Prop) → Prop
  | .dct ks ds, Q => Q ks ds
  | _, _ => False
@[simp] theorem isDct_0 (ks : List Key) (ds : List D) (Q : List Key → List D → Prop) : isDct (.dct ks ds) Q = Q ks ds := rfl
instance instKeyMem (k : Key) (ks : List Key) : Decidable (k ∈ ks) := decidable_of_iff (∃ x, x ∈ ks ∧ x = k) ⟨fun ⟨_, h, e⟩ => e ▸ h, fun h => ⟨k, h, rfl⟩⟩
section
variable {α : Type}
def dAt : List Key → List α → Key → Option α
  | k' :: ks, d :: ds, k => if k' = k then some d else dAt ks ds k
  | _, _, _ => none
def dKs (ks : List Key) (k : Key) : List Key := if k ∈ ks then ks else ks ++ [k]
def dVs (ks : List Key) (ds : List α) (k : Key) (d : α) : List α := if k ∈ ks then ks.zipWith (fun k' d' => if k' = k then d else d') ds else ds ++ [d]
theorem dAt_map (f : Key → α) (k : Key) : ∀ ks : List Key, dAt ks (ks.map f) k = if k ∈ ks then some (f k) else none
  | [] => rfl
  | k' :: ks => by
    rw [List.map_cons, dAt, dAt_map f k ks]
    by_cases e : k' = k
    · subst e; simp
    · have e' : ¬ k = k' := fun z => e z.symm
      rw [if_neg e]; simp [e']
theorem zipW_map (f : Key → α) (k : Key) (d : α) : ∀ ks : List Key, ks.zipWith (fun k' d' => if k' = k then d else d') (ks.map f) = ks.map fun k' => if k' = k then d else f k'
  | [] => rfl
  | k' :: ks => by rw [List.map_cons, List.zipWith_cons_cons, zipW_map f k d ks, List.map_cons]
theorem dVs_map (f : Key → α) (k : Key) (d : α) (ks : List Key) : dVs ks (ks.map f) k d = (dKs ks k).map fun k' => if k' = k then d else f k' := by
  unfold dVs dKs
  by_cases m : k ∈ ks
  · rw [if_pos m, if_pos m, zipW_map]
  · rw [if_neg m, if_neg m, List.map_append]
    congr 1
    · exact List.map_congr_left fun x hx => by rw [if_neg fun z : x = k => m (z ▸ hx)]
    · simp
theorem dAt_mem {k : Key} : ∀ {ks : List Key} {ds : List α}, ks.length = ds.length → (dAt ks ds k).isSome = decide (k ∈ ks)
  | [], _, _ => by simp [dAt]
  | _ :: _, [], h => by simp at h
  | k' :: ks, d :: ds, h => by
    rw [dAt]
    by_cases e : k' = k
    · subst e; simp
    · have e' : ¬ k = k' := fun z => e z.symm
      rw [if_neg e, dAt_mem (ks := ks) (ds := ds) (by simpa using h)]; simp [e']
theorem val_zip (k : Key) : ∀ (ks : List Key) (xs : List V), valV (ks.zip xs) k = dAt ks xs k
  | [], _ => rfl
  | _ :: _, [] => rfl
  | k' :: ks, x :: xs => by
    rw [List.zip_cons_cons, dAt]
    by_cases e : k' = k
    · rw [valV_pos (p := (k', x)) e, if_pos e]
    · rw [valV_neg (p := (k', x)) e, if_neg e, val_zip k ks xs]
theorem map_zip (k : Key) (y : V) : ∀ (ks : List Key) (xs : List V), (ks.zip xs).map (fun kv => if kv.1 = k then (kv.1, y) else kv) = ks.zip (ks.zipWith (fun k' d' => if k' = k then y else d') xs)
  | [], _ => rfl
  | _ :: _, [] => rfl
  | k' :: ks, x :: xs => by
    rw [List.zip_cons_cons, List.map_cons, List.zipWith_cons_cons, List.zip_cons_cons, map_zip k y ks xs]
    by_cases e : k' = k <;> simp [e]
theorem put_zip {ks : List Key} {xs : List V} (h : ks.length = xs.length) (k : Key) (y : V) : putK (ks.zip xs) k y = (dKs ks k).zip (dVs ks xs k y) := by
  unfold putK
  rw [valV_any, val_zip, dAt_mem h]
  unfold dKs dVs
  by_cases m : k ∈ ks
  · rw [if_pos (by simpa using m), if_pos m, if_pos m, map_zip]
  · rw [if_neg (by simpa using m), if_neg m, if_neg m]
    rw [List.zip_append h]; rfl
theorem dKs_len {ks : List Key} {xs : List α} (h : ks.length = xs.length) (k : Key) (y : α) : (dKs ks k).length = (dVs ks xs k y).length := by
  unfold dKs dVs
  by_cases m : k ∈ ks
  · rw [if_pos m, if_pos m, List.length_zipWith]; omega
  · rw [if_neg m, if_neg m, List.length_append, List.length_append, h]; rfl
theorem dKs_le (ks : List Key) (k : Key) : (dKs ks k).length ≤ ks.length + 1 := by
  unfold dKs
  split <;> simp
end
section
variable {K : PySem.W.Frag} {G : Gx} {H : Hp}
theorem RepAll.at {k : Key} : ∀ {ks : List Key} {xs : List V} {ds : List D} {d : D}, RepAll K G H xs ds → dAt ks ds k = some d → ∃ v, dAt ks xs k = some v ∧ Rep K G H v d
  | [], _, _, _, _, e => by simp [dAt] at e
  | _ :: _, _, [], _, _, e => by simp [dAt] at e
  | k' :: ks, _, d' :: ds, d, ⟨x, xs, h1, h2, h3⟩, e => by
    subst h1
    rw [dAt] at e ⊢
    by_cases z : k' = k
    · rw [if_pos z] at e ⊢; cases e; exact ⟨x, rfl, h2⟩
    · rw [if_neg z] at e ⊢; exact RepAll.at h3 e
theorem RepAll.zipW {k : Key} {y : V} {d : D} (r : Rep K G H y d) : ∀ {ks : List Key} {xs : List V} {ds : List D}, RepAll K G H xs ds → RepAll K G H (ks.zipWith (fun k' d' => if k' = k then y else d') xs) (ks.zipWith (fun k' d' => if k' = k then d else d') ds)
  | [], _, _, _ => by rw [List.zipWith_nil_left, List.zipWith_nil_left]; exact rfl
  | _ :: _, _, [], h => by cases h; rw [List.zipWith_nil_right, List.zipWith_nil_right]; exact rfl
  | k' :: ks, _, d' :: ds, ⟨x, xs, h1, h2, h3⟩ => by
    subst h1
    rw [List.zipWith_cons_cons, List.zipWith_cons_cons]
    refine ⟨_, _, rfl, ?_, RepAll.zipW r h3⟩
    by_cases z : k' = k
    · rw [if_pos z, if_pos z]; exact r
    · rw [if_neg z, if_neg z]; exact h2
theorem RepAll.dput {k : Key} {y : V} {d : D} {ks : List Key} {xs : List V} {ds : List D} (h : RepAll K G H xs ds) (r : Rep K G H y d) : RepAll K G H (dVs ks xs k y) (dVs ks ds k d) := by
  unfold dVs
  by_cases m : k ∈ ks
  · rw [if_pos m, if_pos m]; exact h.zipW r
  · rw [if_neg m, if_neg m]; exact h.append (.one r)
theorem RepAll.keys : ∀ (ks : List Key), RepAll K G H (ks.map kV) (ks.map keyD)
  | [] => rfl
  | .inl i :: ks => ⟨_, _, rfl, rfl, RepAll.keys ks⟩
  | .inr i :: ks => ⟨_, _, rfl, rfl, RepAll.keys ks⟩
theorem isK_of {M : List Addr} {v : V} {d : D} {Q : Key → Prop} (b : RB K G M H v d) (h : isK d Q) : ∃ k, v = kV k ∧ d = keyD k ∧ Q k := by
  cases d <;> first | exact h.elim | skip
  · exact ⟨.inl _, b.int, rfl, h⟩
  · exact ⟨.inr _, b.str, rfl, h⟩
end
def fDGet : F2 := fun d e Q => isDct d fun ks ds => isK e fun k => ∃ x, dAt ks ds k = some x ∧ Q (.sh x)
def fDIn : F2 := fun e d Q => isDct d fun ks ds => isK e fun k => Q (.sh (.bl (decide (k ∈ ks))))
def fDNi : F2 := fun e d Q => isDct d fun ks ds => isK e fun k => Q (.sh (.bl (!decide (k ∈ ks))))
@[simp] theorem fDGet_0 (ks : List Key) (ds : List D) (e : D) (Q : RD → Prop) : fDGet (.dct ks ds) e Q = isK e fun k => ∃ x, dAt ks ds k = some x ∧ Q (.sh x) := rfl
@[simp] theorem fDIn_0 (ks : List Key) (ds : List D) (e : D) (Q : RD → Prop) : fDIn e (.dct ks ds) Q = isK e fun k => Q (.sh (.bl (decide (k ∈ ks)))) := rfl
@[simp] theorem fDNi_0 (ks : List Key) (ds : List D) (e : D) (Q : RD → Prop) : fDNi e (.dct ks ds) Q = isK e fun k => Q (.sh (.bl (!decide (k ∈ ks)))) := rfl
def rDGet : R2 := fun x y H Q => ∃ a v, x = .ref a ∧ DGet H a y (some v) ∧ Q v H
def rDIn : R2 := fun y x H Q => ∃ a o, x = .ref a ∧ DGet H a y o ∧ Q (.bl o.isSome) H
def rDNi : R2 := fun y x H Q => ∃ a o, x = .ref a ∧ DGet H a y o ∧ Q (.bl (!o.isSome)) H
section
variable {X : Cx} {G : Gx} {K : PySem.W.Frag} {E : Ent} {a b e i : Expr} {ta tb te ti : TE} {wa wb we wi : WE} {pos : Pos}
theorem ops_dget : OpS K G rDGet fDGet := fun M H x y d e al bx by' Qd h Q k => by
  cases d <;> first | exact h.elim | skip
  obtain ⟨p, xs, rfl, hp, hl, r⟩ := bx.dct
  obtain ⟨key, rfl, rfl, z, hz, h⟩ := isK_of by' (show isK e _ from h)
  obtain ⟨v, hv, rv⟩ := r.at hz
  exact ⟨p, v, rfl, .inl ⟨_, key, .inl hp, rfl, by rw [val_zip, hv]⟩, k v (.sh z) H (Same.refl _) rv h⟩
theorem ops_din : OpS K G rDIn fDIn := fun M H y x e d al by' bx Qd h Q k => by
  cases d <;> first | exact h.elim | skip
  obtain ⟨p, xs, rfl, hp, hl, r⟩ := bx.dct
  rw [fDIn_0] at h
  obtain ⟨key, rfl, rfl, h2⟩ := isK_of by' h
  refine ⟨p, _, rfl, .inl ⟨_, key, .inl hp, rfl, rfl⟩, k _ _ H (Same.refl _) rn_bl ?_⟩
  rw [val_zip, dAt_mem hl]; exact h2
theorem ops_dni : OpS K G rDNi fDNi := fun M H y x e d al by' bx Qd h Q k => by
  cases d <;> first | exact h.elim | skip
  obtain ⟨p, xs, rfl, hp, hl, r⟩ := bx.dct
  rw [fDNi_0] at h
  obtain ⟨key, rfl, rfl, h2⟩ := isK_of by' h
  refine ⟨p, _, rfl, .inl ⟨_, key, .inl hp, rfl, rfl⟩, k _ _ H (Same.refl _) rn_bl ?_⟩
  rw [val_zip, dAt_mem hl]; exact h2
theorem de_dget (hu : X.A.units + 64 < cLine) (ha : DE X G a ta wa) (hb : DE X G b tb wb) (hs : NoSl b) : DE X G (.Subscript a b pos) (tOp rDGet ta tb) (wOp fDGet wa wb) := ⟨pe_dget (by omega) ha.pe hb.pe hs, fun E => sim_op ops_dget (ha.sim E) (hb.sim E)⟩
theorem de_din (hu : X.A.units + 64 < cLine) (ha : DE X G a ta wa) (hb : DE X G b tb wb) (hm : behindInMarks .In b = false := by rfl) : DE X G (.Compare a [.In] [b] pos) (tOp rDIn ta tb) (wOp fDIn wa wb) := ⟨pe_cmp (pc_din (by omega) ha.pe hb.pe) hm, fun E => sim_op ops_din (ha.sim E) (hb.sim E)⟩
theorem dt_din (hu : X.A.units + 64 < cLine) (ha : DE X G a ta wa) (hb : DE X G b tb wb) (hm : behindInMarks .In b = false := by rfl) : DT X G (.Compare a [.In] [b] pos) (tTest (tOp rDIn ta tb)) (wTest (wOp fDIn wa wb)) := ⟨pt_cmp (pc_din (by omega) ha.pe hb.pe) hm, fun E => sim_test (sim_op ops_din (ha.sim E) (hb.sim E))⟩
theorem de_dni (hu : X.A.units + 64 < cLine) (ha : DE X G a ta wa) (hb : DE X G b tb wb) (hm : behindInMarks .NotIn b = false := by rfl) : DE X G (.Compare a [.NotIn] [b] pos) (tOp rDNi ta tb) (wOp fDNi wa wb) := ⟨pe_cmp (pc_dnotin (by omega) ha.pe hb.pe) hm, fun E => sim_op ops_dni (ha.sim E) (hb.sim E)⟩
theorem dt_dni (hu : X.A.units + 64 < cLine) (ha : DE X G a ta wa) (hb : DE X G b tb wb) (hm : behindInMarks .NotIn b = false := by rfl) : DT X G (.Compare a [.NotIn] [b] pos) (tTest (tOp rDNi ta tb)) (wTest (wOp fDNi wa wb)) := ⟨pt_cmp (pc_dnotin (by omega) ha.pe hb.pe) hm, fun E => sim_test (sim_op ops_dni (ha.sim E) (hb.sim E))⟩
@[simp] def ownDc (δ : St3) (i : Nat) (ks : List Key) (ds : List D) : Prop := δ.sl[i]? = some (some (SV.ow (.dct ks ds)))
@[simp] def wDPut (i : Nat) (wv wk : WE) : WS := fun De δ => wv δ fun r δ1 => ¬ r.bor ∧ (∃ ks0 ds0, ownDc δ1 i ks0 ds0) ∧ wk δ1 fun s δ2 => ∃ ks ds, ownDc δ2 i ks ds ∧ isK s.d fun k => ks.length < 16777216 ∧ De.nx ⟨δ2.sl.set i (some (.ow (.dct (dKs ks k) (dVs ks ds k r.d)))), δ2.n⟩
theorem sim_dput {i : Nat} (h : ∀ E, SimE K G E te we) (h' : ∀ E, SimE K G E ti wi) : SimS K G (sDPut (tVar i) ti te) (wDPut i we wi) := fun E am M σ δ H S D3 q De R => by
  refine h E am M σ δ H S _ q _ fun x r δ1 H1 S1 e1 o1 rv ⟨nb, ⟨ks0, ds0, h0⟩, q⟩ => ?_
  obtain ⟨a1, _⟩ := S1.ow i _ h0
  refine ⟨_, a1, ?_⟩
  refine h' E am M σ δ1 H1 S1 _ q _ fun z s δ2 H2 S2 e2 o2 sv ⟨ks, ds, h1, q⟩ => ?_
  obtain ⟨b1, b2, b3, b4, xs, b5, hl, b6⟩ := S2.ow i _ h1
  obtain ⟨key, rfl, es, sz, q⟩ := isK_of (sv.k.rb S2) q
  have rr := (rv.k.later (δ2 := δ2) S1 e2 (fun b => (nb b).elim)).rep nb
  refine ⟨am i, _, rfl, .inl ⟨_, key, b5, rfl, by rw [List.length_zip, ← hl, Nat.min_self, line16]; exact sz, rfl⟩, R.nx am M _ _ _ (S2.mut (d' := .dct (dKs ks key) (dVs ks ds key r.d)) h1 ⟨dVs ks xs key x, by rw [upd_same, put_zip hl], dKs_len hl key x, ?_⟩ rfl) q⟩
  rw [mask_upd b2]
  exact b6.dput rr
theorem ds_dput (k : Nat) {x : Str} {px pos2 : Pos} (hu : X.A.units + 64 < cLine) (he : DE X G e te we) (hx : PE X (.Name x px) (tVar k)) (hi : DE X G i ti wi) (hs : swapsWith e (some (.Subscript (.Name x px) i pos2)) pos.line X.env = pure false := by rfl) :
    DS X G (.Assign [.Subscript (.Name x px) i pos2] e pos) (sDPut (tVar k) ti te) (wDPut k we wi) := ⟨ps_dput (by omega) hx hi.pe he.pe hs, sim_dput he.sim hi.sim⟩
@[simp] def wDNew : WE := fun δ Q => Q (.fr (.dct [] [])) δ
theorem sim_dnew : SimE K G E tDNewK wDNew := fun am M σ δ H S Qd q Q k p hp => by
  have sm := same_new (o := .dK []) hp
  exact k _ (.fr (.dct [] [])) δ _ (S.grow sm) (Ext.of (δ := δ) sm) (fun _ z => z) (RN.rv (r := .fr (.dct [] [])) S sm ⟨p, rfl, hp, [], upd_same, rfl, rfl⟩) q
theorem de_dnew : DE X G (.Dict [] [] pos) tDNewK wDNew := ⟨pe_dnewK, fun _ => sim_dnew⟩
@[simp] def wPrs : List (WE × WE) → St3 → (List Key → List D → St3 → Prop) → Prop
  | [], δ, Q => Q [] [] δ
  | (wk, wv) :: r, δ, Q => wk δ fun s δ1 => isK s.d fun k => wv δ1 fun v δ2 => ¬ v.bor ∧ wPrs r δ2 fun ks ds δ3 => Q (k :: ks) (v.d :: ds) δ3
def dMerge {α : Type} : List Key → List α → List Key → List α → List Key × List α
  | ks, ds, k :: more, d :: ms => dMerge (dKs ks k) (dVs ks ds k d) more ms
  | ks, ds, _, _ => (ks, ds)
@[simp] theorem dMerge_nil {α : Type} (ks : List Key) (ds : List α) : dMerge ks ds [] [] = (ks, ds) := by simp [dMerge]
@[simp] theorem dMerge_cons {α : Type} (ks : List Key) (ds : List α) (k : Key) (d : α) (more : List Key) (ms : List α) : dMerge ks ds (k :: more) (d :: ms) = dMerge (dKs ks k) (dVs ks ds k d) more ms := by simp [dMerge]
@[simp] def wDisp (ps : List (WE × WE)) : WE := fun δ Q => wPrs ps δ fun ks ds δ1 => ks.length ≤ 15 ∧ Q (.fr (.dct (dMerge [] [] ks ds).1 (dMerge [] [] ks ds).2)) δ1
structure DP (X : Cx) (G : Gx) (pos : Pos) (keys : List (Option Expr)) (values : List Expr) (ts : List (TE × TE)) (ws : List (WE × WE)) : Prop where
  pp : PPs X pos keys values ts
  sim : ∀ (E : Ent) (am : Nat → Addr) (M : List Addr) (σ : L2.St) (δ : St3) (H : Hp), SR X.K G E am M σ δ H → ∀ Qd : List Key → List D → St3 → Prop, wPrs ws δ Qd → ∀ Q : List (V × V) → Hp → Prop,
    (∀ (ks : List Key) (xs : List V) (ds : List D) (δ' : St3) (H' : Hp), SR X.K G E am M σ δ' H' → Ext G am δ H H' → (∀ i, isOwn δ' i → isOwn δ i) → ks.length = xs.length → RepAll X.K G (mask M H') xs ds → Qd ks ds δ' → Q ((ks.zip xs).map fun kv => (kV kv.1, kv.2)) H') → tPairs ts σ H Q
theorem dp_nil : DP X G pos [] [] [] [] := ⟨pps_nil, fun E am M σ δ H S Qd q Q k => k [] [] [] δ H S .refl (fun _ z => z) rfl rfl q⟩
theorem dp_cons {keys : List (Option Expr)} {values : List Expr} {ts : List (TE × TE)} {ws : List (WE × WE)} (ha : DE X G a ta wa) (hb : DE X G b tb wb) (hr : DP X G pos keys values ts ws) : DP X G pos (some a :: keys) (b :: values) ((ta, tb) :: ts) ((wa, wb) :: ws) :=
  ⟨pps_cons ha.pe hb.pe hr.pp, fun E am M σ δ H S Qd q Q k => by
    refine ha.sim E am M σ δ H S _ q _ fun x r δ1 H1 S1 e1 o1 rv q => ?_
    obtain ⟨key, rfl, _, q⟩ := isK_of (rv.k.rb S1) q
    refine hb.sim E am M σ δ1 H1 S1 _ q _ fun y s δ2 H2 S2 e2 o2 sv ⟨nb, q⟩ => ?_
    refine hr.sim E am M σ δ2 H2 S2 _ q _ fun ks xs ds δ3 H3 S3 e3 o3 hl r3 q => ?_
    exact k (key :: ks) (y :: xs) (s.d :: ds) δ3 H3 S3 ((e1.trans o1 e2).trans (fun i z => o1 i (o2 i z)) e3) (fun i z => o1 i (o2 i (o3 i z))) (by simp [hl]) ⟨y, xs, rfl, Rep.mono (S2.mask e3) _ (sv.k.rep nb), r3⟩ q⟩
theorem merge_zip : ∀ (more : List Key) (ms : List V) (ks : List Key) (xs : List V), ks.length = xs.length → more.length = ms.length → mergeK (ks.zip xs) (more.zip ms) = (dMerge ks xs more ms).1.zip (dMerge ks xs more ms).2
  | [], [], ks, xs, _, _ => by rw [dMerge_nil]; rfl
  | [], _ :: _, _, _, _, h => by simp at h
  | _ :: _, [], _, _, _, h => by simp at h
  | k :: more, m :: ms, ks, xs, h, h' => by
    rw [dMerge_cons, ← merge_zip more ms _ _ (dKs_len h k m) (by simpa using h'), List.zip_cons_cons, ← put_zip h]; rfl
theorem merge_keys {α β : Type} : ∀ (more : List Key) (ms : List α) (ns : List β) (ks : List Key) (xs : List α) (ys : List β), more.length = ms.length → more.length = ns.length → (dMerge ks xs more ms).1 = (dMerge ks ys more ns).1
  | [], [], [], ks, xs, ys, _, _ => by rw [dMerge_nil, dMerge_nil]
  | k :: more, m :: ms, n :: ns, ks, xs, ys, h, h' => by
    rw [dMerge_cons, dMerge_cons]
    exact merge_keys more ms ns _ _ _ (by simpa using h) (by simpa using h')
  | [], _ :: _, _, _, _, _, h, _ => by simp at h
  | [], _, _ :: _, _, _, _, _, h => by simp at h
  | _ :: _, [], _, _, _, _, h, _ => by simp at h
  | _ :: _, _, [], _, _, _, _, h => by simp at h
theorem merge_len {α : Type} : ∀ (more : List Key) (ms : List α) (ks : List Key) (xs : List α), ks.length = xs.length → more.length = ms.length → (dMerge ks xs more ms).1.length = (dMerge ks xs more ms).2.length
  | [], [], ks, xs, h, _ => by rw [dMerge_nil]; exact h
  | k :: more, m :: ms, ks, xs, h, h' => by
    rw [dMerge_cons]
    exact merge_len more ms _ _ (dKs_len h k m) (by simpa using h')
  | [], _ :: _, _, _, _, h => by simp at h
  | _ :: _, [], _, _, _, h => by simp at h
theorem RepAll.merge {H : Hp} : ∀ (more : List Key) (ms : List V) (ns : List D) (ks : List Key) (xs : List V) (ys : List D), RepAll K G H ms ns → RepAll K G H xs ys → RepAll K G H (dMerge ks xs more ms).2 (dMerge ks ys more ns).2
  | [], _, _, _, _, _, _, h => by simpa [dMerge] using h
  | _ :: _, _, [], _, _, _, r, h => by cases r; simpa [dMerge] using h
  | k :: more, _, n :: ns, ks, xs, ys, ⟨m, ms, e, r1, r2⟩, h => by
    subst e
    rw [dMerge_cons, dMerge_cons]
    exact RepAll.merge more ms ns _ _ _ r2 (h.dput r1)
theorem sim_disp {keys : List (Option Expr)} {values : List Expr} {ts : List (TE × TE)} {ws : List (WE × WE)} (hp : DP X G pos keys values ts ws) : SimE X.K G E (tDisp ts) (wDisp ws) := fun am M σ δ H S Qd q Q k p hpn => by
  have sm := same_new (o := .dK []) hpn
  have pM : p ∉ M := fun z => S.al p z hpn
  have pDk : p ∉ G.dk := fun z => pM (S.ads p (S.dks p z))
  have pH0 : E.H0 p = none := by
    cases z : E.H0 p with
    | none => rfl
    | some o => exact absurd (S.base p o z pDk) (by rw [hpn]; simp)
  have pOwn : ∀ i, isOwn δ i → am i ≠ p := fun i ⟨d, hi⟩ z => pM (z ▸ (S.ow i d hi).2.1)
  have T := S.more (p := p) hpn sm (by rw [upd_same]; simp)
  refine hp.sim E am (p :: M) σ δ _ T _ q _ fun ks xs ds δ' H' S' e o hl r ⟨h15, q⟩ => ?_
  have h1 : H' p = some (.dK []) := e p _ upd_same pDk fun i hi => pOwn i hi
  refine ⟨h1, ks.zip xs, rfl, by rw [List.length_zip, ← hl, Nat.min_self]; exact h15, ?_⟩
  have S2 := S'.put (o := .dK (mergeK [] (ks.zip xs))) List.mem_cons_self pDk pH0 fun i z => pOwn i (o i z)
  have S3 := S2.less (M' := M) (fun a z => List.mem_cons_of_mem _ z) S.ads fun j d h => by
    obtain ⟨d', h'⟩ := o j ⟨d, h⟩
    exact (S.ow j d' h').2.1
  refine k (.ref p) (.fr (.dct (dMerge [] [] ks ds).1 (dMerge [] [] ks ds).2)) δ' _ S3 (fun b u hb kb ho => ?_) o ⟨p, rfl, pM, pH0, ⟨(dMerge [] [] ks xs).2, ?_, ?_, ?_⟩, S2⟩ q
  · have ne : b ≠ p := fun z => by subst z; rw [hpn] at hb; cases hb
    rw [upd_ne ne]
    exact e b u (sm b u hb) kb ho
  · rw [upd_same]
    have := merge_zip ks xs [] [] rfl hl
    rw [List.zip_nil_left] at this
    rw [this, merge_keys ks xs ds [] [] [] hl (by rw [hl, r.length])]
  · rw [← merge_keys ks xs ds [] [] [] hl (by rw [hl, r.length])]
    exact merge_len ks xs [] [] rfl hl
  · rw [mask_upd List.mem_cons_self]
    exact RepAll.merge ks xs ds [] [] [] r rfl
theorem de_disp {keys : List (Option Expr)} {values : List Expr} {ts : List (TE × TE)} {ws : List (WE × WE)} (hp : DP X G pos keys values ts ws) (hall : keys.all (·.isSome) = true := by rfl) (hl : keys.length = values.length := by rfl) (h0 : keys ≠ [] := by exact List.cons_ne_nil _ _)
    (h15 : keys.length ≤ 15 := by decide) : DE X G (.Dict keys values pos) (tDisp ts) (wDisp ws) := ⟨pe_disp hp.pp hall hl h0 h15, fun E => sim_disp hp⟩
end
def fListD : FC
  | [.dct ks _], Q => Q (.fr (.lst (ks.map keyD)))
  | _, _ => False
@[simp] theorem fListD_0 (ks : List Key) (ds : List D) (Q : RD → Prop) : fListD [.dct ks ds] Q = Q (.fr (.lst (ks.map keyD))) := rfl
def fLenD : FC
  | [.dct ks _], Q => Q (.sh (.int ks.length))
  | _, _ => False
@[simp] theorem fLenD_0 (ks : List Key) (ds : List D) (Q : RD → Prop) : fLenD [.dct ks ds] Q = Q (.sh (.int ks.length)) := rfl
def rListD : List V → Hp → VK → Prop := fun xs H Q => ∃ (a : Addr) (kvs : List (Key × V)), xs = [.ref a] ∧ Rd H a (.dK kvs) ∧ ∀ p, H p = none → Q (.ref p) (upd H p (.lst (kvs.map fun kv => kV kv.1)))
def rLenD : List V → Hp → VK → Prop := fun xs H Q => ∃ a kvs, xs = [V.ref a] ∧ H a = some (.dK kvs) ∧ Q (.int kvs.length) H
section
variable {X : Cx} {G : Gx} {K : PySem.W.Frag}
theorem call_listDK (hc : X.calm = true) : CallR X (.type "list") rListD := call_listD hc
theorem call_lenDK : CallR X (.builtin "len") rLenD := call_lenD
theorem calls_listD : CallS K G rListD fListD := fun M H vs ds al b Qd h Q k => by
  match ds, h with
  | [.dct ks es], h =>
    obtain ⟨v, rfl, b1⟩ := b.one
    obtain ⟨p, xs, rfl, hp, hl, r⟩ := b1.dct
    refine ⟨p, _, rfl, .inl hp, fun l hq => ?_⟩
    have e : (ks.zip xs).map (fun kv => kV kv.1) = ks.map kV := by
      have : (ks.zip xs).map (fun kv => kV kv.1) = ((ks.zip xs).map (·.1)).map kV := by rw [List.map_map]; rfl
      rw [this, List.map_fst_zip (by omega)]
    rw [e]
    exact k _ _ _ (same_new hq) (rn_lst hq (RepAll.keys ks)) h
theorem calls_lenD : CallS K G rLenD fLenD := fun M H vs ds al b Qd h Q k => by
  match ds, h with
  | [.dct ks es], h =>
    obtain ⟨v, rfl, b1⟩ := b.one
    obtain ⟨p, xs, rfl, hp, hl, r⟩ := b1.dct
    refine ⟨p, _, rfl, hp, ?_⟩
    rw [List.length_zip, ← hl, Nat.min_self]
    exact k _ _ H (Same.refl _) rn_int h
end
end L3
namespace L3
open PySem PySem.Spec PyProof.Rows L2
section
variable {α : Type} {ad : α → RD → (α → Prop) → Prop} {g g1 : WG} {t t1 : WT} {wi1 : WI} {w : WE} {vs vs1 : List Nat} {Q : α → St3 → Prop}
theorem c2In_of (I : Nat → α → St3 → Prop) : ∀ (ds : List D) (k : Nat) (acc : α) (δ : St3), I k acc δ →
    (∀ (i : Nat) (d : D) (acc : α) (δ : St3), ds[i]? = some d → I (k + i) acc δ → ∀ N : α → St3 → Prop, (∀ acc δ, I (k + i + 1) acc δ → N acc δ) → g d δ fun δ1 => t δ1 fun b δ2 =>
      (b = true → w δ2 fun q δ3 => ad acc q fun acc' => N acc' ⟨wipe3 δ3.sl vs, δ3.n⟩) ∧ (b = false → N acc ⟨wipe3 δ2.sl vs, δ2.n⟩)) →
    (∀ acc δ, I (k + ds.length) acc δ → Q acc δ) → c2In ad g t w vs Q ds acc δ
  | [], k, acc, δ, h0, _, hn => hn acc δ h0
  | d :: ds, k, acc, δ, h0, hs, hn => hs 0 d acc δ rfl h0 _ fun acc1 δ1 h1 => c2In_of I ds (k + 1) acc1 δ1 h1 (fun i d' acc' δ' hd hi N hN => hs (i + 1) d' acc' δ' hd (by rw [show k + (i + 1) = k + 1 + i by omega]; exact hi) N fun acc2 δ2 h2 => hN acc2 δ2 (by rw [show k + 1 + i + 1 = k + (i + 1) + 1 by omega]; exact h2))
      fun acc2 δ2 h2 => hn acc2 δ2 (by rw [show k + (d :: ds).length = k + 1 + ds.length by simp only [List.length_cons]; omega]; exact h2)
theorem c2In_inv {ds : List D} {acc : α} {δ : St3} (I : Nat → α → St3 → Prop) (h0 : I 0 acc δ)
    (hs : ∀ (i : Nat) (d : D) (acc : α) (δ : St3), ds[i]? = some d → I i acc δ → ∀ N : α → St3 → Prop, (∀ acc δ, I (i + 1) acc δ → N acc δ) → g d δ fun δ1 => t δ1 fun b δ2 =>
      (b = true → w δ2 fun q δ3 => ad acc q fun acc' => N acc' ⟨wipe3 δ3.sl vs, δ3.n⟩) ∧ (b = false → N acc ⟨wipe3 δ2.sl vs, δ2.n⟩))
    (hn : ∀ acc δ, I ds.length acc δ → Q acc δ) : c2In ad g t w vs Q ds acc δ :=
  c2In_of I ds 0 acc δ h0 (fun i d acc δ hd hi N hN => hs i d acc δ hd (by rwa [Nat.zero_add] at hi) N fun acc δ h => hN acc δ (by rwa [Nat.zero_add])) fun acc δ h => hn acc δ (by rwa [Nat.zero_add] at h)
theorem c2Out_of (I : Nat → α → St3 → Prop) : ∀ (ds : List D) (k : Nat) (acc : α) (δ : St3), I k acc δ →
    (∀ (i : Nat) (d : D) (acc : α) (δ : St3), ds[i]? = some d → I (k + i) acc δ → ∀ N : α → St3 → Prop, (∀ acc δ, I (k + i + 1) acc δ → N acc δ) → g d δ fun δ1 => t δ1 fun b δ2 =>
      (b = true → wi1 δ2 fun es δ3 => c2In ad g1 t1 w vs1 (fun acc' δ4 => N acc' ⟨wipe3 δ4.sl vs, δ4.n⟩) es acc ⟨wipe3 δ3.sl vs1, δ3.n⟩) ∧ (b = false → N acc ⟨wipe3 δ2.sl vs, δ2.n⟩)) →
    (∀ acc δ, I (k + ds.length) acc δ → Q acc δ) → c2Out ad g t wi1 g1 t1 w vs vs1 Q ds acc δ
  | [], k, acc, δ, h0, _, hn => hn acc δ h0
  | d :: ds, k, acc, δ, h0, hs, hn => hs 0 d acc δ rfl h0 _ fun acc1 δ1 h1 => c2Out_of I ds (k + 1) acc1 δ1 h1 (fun i d' acc' δ' hd hi N hN => hs (i + 1) d' acc' δ' hd (by rw [show k + (i + 1) = k + 1 + i by omega]; exact hi) N fun acc2 δ2 h2 => hN acc2 δ2 (by rw [show k + 1 + i + 1 = k + (i + 1) + 1 by omega]; exact h2))
      fun acc2 δ2 h2 => hn acc2 δ2 (by rw [show k + (d :: ds).length = k + 1 + ds.length by simp only [List.length_cons]; omega]; exact h2)
theorem c2Out_inv {ds : List D} {acc : α} {δ : St3} (I : Nat → α → St3 → Prop) (h0 : I 0 acc δ)
    (hs : ∀ (i : Nat) (d : D) (acc : α) (δ : St3), ds[i]? = some d → I i acc δ → ∀ N : α → St3 → Prop, (∀ acc δ, I (i + 1) acc δ → N acc δ) → g d δ fun δ1 => t δ1 fun b δ2 =>
      (b = true → wi1 δ2 fun es δ3 => c2In ad g1 t1 w vs1 (fun acc' δ4 => N acc' ⟨wipe3 δ4.sl vs, δ4.n⟩) es acc ⟨wipe3 δ3.sl vs1, δ3.n⟩) ∧ (b = false → N acc ⟨wipe3 δ2.sl vs, δ2.n⟩))
    (hn : ∀ acc δ, I ds.length acc δ → Q acc δ) : c2Out ad g t wi1 g1 t1 w vs vs1 Q ds acc δ :=
  c2Out_of I ds 0 acc δ h0 (fun i d acc δ hd hi N hN => hs i d acc δ hd (by rwa [Nat.zero_add] at hi) N fun acc δ h => hN acc δ (by rwa [Nat.zero_add])) fun acc δ h => hn acc δ (by rwa [Nat.zero_add] at h)
end
@[simp] theorem adS_int (acc : List Int) (c : Int) (N : List Int → Prop) : adS acc (.sh (.int c)) N = (acc.length + 1 < 4096 ∧ N (if c ∈ acc then acc else acc ++ [c])) := rfl
@[simp] theorem adL_sh (acc : List D) (d : D) (N : List D → Prop) : adL acc (.sh d) N = (acc.length < 16777216 ∧ N (acc ++ [d])) := by simp [adL]
theorem putN {acc : List Int} {c : Int} (h : acc.Nodup) : (if c ∈ acc then acc else acc ++ [c]).Nodup := by
  split
  · exact h
  · rename_i m
    exact List.nodup_append.mpr ⟨h, by simp, fun x hx y hy z => by simp at hy; subst hy; subst z; exact m hx⟩
theorem putM {acc : List Int} {c j : Int} : (j ∈ if c ∈ acc then acc else acc ++ [c]) ↔ j ∈ acc ∨ j = c := by
  split
  · rename_i m
    constructor
    · exact .inl
    · rintro (h | rfl)
      · exact h
      · exact m
  · simp
theorem keyD_inl (ns : List Int) : (ns.map (Sum.inl : Int → Key)).map keyD = ns.map D.int := by rw [List.map_map]; rfl
theorem dKs_inl (ns : List Int) (c : Int) : dKs (ns.map (Sum.inl : Int → Key)) (.inl c) = (if c ∈ ns then ns else ns ++ [c]).map Sum.inl := by
  unfold dKs
  by_cases m : c ∈ ns
  · rw [if_pos m, if_pos (List.mem_map.mpr ⟨c, m, rfl⟩)]
  · rw [if_neg m, if_neg fun z => m (by obtain ⟨x, hx, e⟩ := List.mem_map.mp z; cases e; exact hx), List.map_append]; rfl
theorem mem_inl (ns : List Int) (c : Int) : (Sum.inl c : Key) ∈ ns.map (Sum.inl : Int → Key) ↔ c ∈ ns :=
  ⟨fun z => by obtain ⟨x, hx, e⟩ := List.mem_map.mp z; cases e; exact hx, fun m => List.mem_map.mpr ⟨c, m, rfl⟩⟩
@[simp] theorem flat_ints (ns : List Int) : (ns.map D.int).all D.flat = true := by simp [D.flat]
@[simp] theorem inD_ints (i : Int) (ns : List Int) : inD (.int i) (ns.map D.int) = decide (i ∈ ns) := by
  unfold inD inV
  rw [List.map_map]
  induction ns with
  | nil => simp
  | cons j ns ih =>
    rw [List.map_cons, List.any_cons, ih]
    have : eqV ((D.v ∘ D.int) j) (D.int i).v = decide (j = i) := by
      show eqV (.int j) (.int i) = _
      simp only [eqV]; by_cases e : j = i <;> simp [e]
    rw [this]
    by_cases e : j = i
    · subst e; simp
    · have e' : ¬ i = j := fun z => e z.symm
      simp [e, e']
theorem ShAll.mapB {α : Type} {g : α → D} {h l : Nat} : ∀ {as : List α}, (∀ a ∈ as, ∃ p, Sh (g a) p h l) → ∃ ps, ShAll (as.map g) ps h ((l + 2) * as.length)
  | [], _ => ⟨[], ShAll.nil.mono (Nat.zero_le _) (by simp)⟩
  | a :: as, hh => by
    obtain ⟨ps, q⟩ := ShAll.mapB (as := as) fun b hb => hh b (List.mem_cons_of_mem _ hb)
    obtain ⟨p, sh⟩ := hh a List.mem_cons_self
    refine ⟨_, (ShAll.cons sh q (Nat.le_refl _)).mono (Nat.le_refl _) ?_⟩
    rw [List.length_cons, Nat.mul_add]; omega
end L3
namespace L3
open PySem PySem.Spec PyProof.Rows L2
section
variable {X : Cx} {G : Gx} {K : PySem.W.Frag} {E : Ent} {a b e : Expr} {ta tb te : TE} {wa wb we : WE} {p p2 pos pos2 : Pos}
theorem sim_rg2 {put : List V → HO} {fr : List D → RD} (hput : ∀ (M : List Addr) (H : Hp) (l : Addr) (xs : List V) (ds : List D), (∀ a ∈ M, H a ≠ none) → H l = none → RepAll K G (mask M H) xs ds → RN K G M H (upd H l (put xs)) (.ref l) (fr ds)) (ha : ∀ E, SimE K G E ta wa) (hb : ∀ E, SimE K G E tb wb) :
    SimE K G E (fun σ H Q => tRg2 ta tb σ H fun a b H1 => RgOk a b ∧ ∀ q, H1 q = none → Q (.ref q) (upd H1 q (put (rgV a b)))) (fun δ Q => wa δ fun r δ1 => wb δ1 fun s δ2 => (r.bor → δ2.sl = δ1.sl) ∧ isI r.d fun i => isI s.d fun j => RgOk i j ∧ Q (fr (rng i (j - i).toNat)) δ2) := fun am M σ δ H S Qd q Q k => by
  refine ha E am M σ δ H S _ q _ fun v r δ1 H1 S1 e1 o1 rv q => ?_
  refine hb E am M σ δ1 H1 S1 _ q _ fun u s δ2 H2 S2 e2 o2 sv ⟨st, q⟩ => ?_
  obtain ⟨i, _, rfl, q⟩ := isI_of S2 (rv.k.later S1 e2 st) q
  obtain ⟨j, _, rfl, rg, q⟩ := isI_of S2 sv.k q
  refine ⟨i, j, rfl, rfl, rg, fun l hl => ?_⟩
  exact k _ _ δ2 _ (S2.grow (same_new hl)) ((e1.trans o1 e2).trans (fun i z => o1 i (o2 i z)) (Ext.of (δ := δ2) (same_new hl))) (fun i z => o1 i (o2 i z)) ((hput M H2 l _ _ S2.al hl (rep_rg i j)).rv S2 (same_new hl)) q
theorem de_lrg2 (ha : DE X G a ta wa) (hb : DE X G b tb wb) (hm : X.mg "list" = none) (hm2 : X.mg "range" = none) (hc : X.calm = true := by rfl) (g1 : Gl X "list" := by rfl) (g2 : Gl X "range" := by rfl) (na : starEach [a, b] X.env = (false, eval a X.env) :: starEach [b] X.env := by rfl) (nb : starEach [b] X.env = (false, eval b X.env) :: starEach [] X.env := by rfl)
    (hp : (backTo pos (starEach [b] X.env)).any (·.1) = false := by rfl) (nr : starEach [.Call (.Name "range" p) [a, b] [] pos] X.env = (false, eval (.Call (.Name "range" p) [a, b] [] pos) X.env) :: starEach [] X.env := by rfl) :
    DE X G (.Call (.Name "list" p2) [.Call (.Name "range" p) [a, b] [] pos] [] pos2) (tLstRg (tRg2 ta tb)) (wLRg2 wa wb) :=
  ⟨pe_listRg hc g1 hm (prg_2 g2 hm2 ha.pe hb.pe na nb hp) nr, fun E => sim_rg2 (put := .lst) (fr := fun ds => .fr (.lst ds)) (fun M H l xs ds _ hl r => rn_lst hl r) ha.sim hb.sim⟩
theorem de_trg2 (ha : DE X G a ta wa) (hb : DE X G b tb wb) (hm : X.mg "tuple" = none) (hm2 : X.mg "range" = none) (hc : X.calm = true := by rfl) (g1 : Gl X "tuple" := by rfl) (g2 : Gl X "range" := by rfl) (na : starEach [a, b] X.env = (false, eval a X.env) :: starEach [b] X.env := by rfl) (nb : starEach [b] X.env = (false, eval b X.env) :: starEach [] X.env := by rfl)
    (hp : (backTo pos (starEach [b] X.env)).any (·.1) = false := by rfl) (nr : starEach [.Call (.Name "range" p) [a, b] [] pos] X.env = (false, eval (.Call (.Name "range" p) [a, b] [] pos) X.env) :: starEach [] X.env := by rfl) :
    DE X G (.Call (.Name "tuple" p2) [.Call (.Name "range" p) [a, b] [] pos] [] pos2) (tTupRg (tRg2 ta tb)) (wTRg2 wa wb) :=
  ⟨pe_tupRg hc g1 hm (prg_2 g2 hm2 ha.pe hb.pe na nb hp) nr, fun E => sim_rg2 (put := .tup) (fr := fun ds => .sh (.tup ds)) (fun M H l xs ds al hl r => rn_tup al hl r) ha.sim hb.sim⟩
@[simp] def wAugI (i : Nat) (f : Int → Int → Int) (w : WE) : WS := fun De δ => ∃ d, δ.sl[i]? = some (some (.sh d)) ∧ isI d fun x => w δ fun r δ1 => isI r.d fun y => De.nx ⟨δ1.sl.set i (some (.sh (.int (f x y)))), δ1.n⟩
theorem sim_augI {i : Nat} {f : Int → Int → Int} (h : ∀ E, SimE K G E te we) : SimS K G (tAug i te (ipI f)) (wAugI i f we) := fun E am M σ δ H S D3 ⟨d, hd, q⟩ De R => by
  obtain ⟨v, hv, rv⟩ := S.sh i d hd
  cases d <;> first | exact q.elim | skip
  have ev : v = .int _ := rv
  subst ev
  refine ⟨_, hv, ?_⟩
  refine h E am M σ δ H S _ q _ fun u r δ1 H1 S1 e1 o1 sv q => ?_
  obtain ⟨j, _, rfl, q⟩ := isI_of S1 sv.k q
  exact ⟨_, _, rfl, rfl, R.nx am M _ _ H1 (S1.set_sh (d := .int _) rfl) q⟩
theorem ds_augA (i : Nat) {x : Str} {px : Pos} (hN : X.N.Nodup) (he : DE X G e te we) (hi : X.N[i]? = some x := by rfl) (hx : Loc X.env.scope x := by first | exact Or.inl rfl | exact Or.inr rfl) (hf : X.fn x = true ∨ X.env.scope.names.lookup x = some .local := by first | exact .inl rfl | exact .inr rfl) :
    DS X G (.AugAssign (.Name x px) .Add e pos) (tAug i te (ipI fun i j => i + j)) (wAugI i (fun i j => i + j) we) := ⟨ps_aug hN hi hx he.pe ip_add hf, sim_augI he.sim⟩
theorem ds_augS (i : Nat) {x : Str} {px : Pos} (hN : X.N.Nodup) (he : DE X G e te we) (hi : X.N[i]? = some x := by rfl) (hx : Loc X.env.scope x := by first | exact Or.inl rfl | exact Or.inr rfl) (hf : X.fn x = true ∨ X.env.scope.names.lookup x = some .local := by first | exact .inl rfl | exact .inr rfl) :
    DS X G (.AugAssign (.Name x px) .Sub e pos) (tAug i te (ipI fun i j => i - j)) (wAugI i (fun i j => i - j) we) := ⟨ps_aug hN hi hx he.pe ip_sub hf, sim_augI he.sim⟩
@[simp] def wRevL (w : WE) : WE := fun δ Q => w δ fun r δ1 => ∃ ds, r.d = .lst ds ∧ Q (.fr (.lst ds.reverse)) δ1
theorem de_revL {k : Nat} {p1 p2 p3 : Pos} (K : PySem.W.Frag) (he : DE X G e te we) (hK : X.K = K := by rfl) : DE X G (.Subscript e (.Slice none none (some (.UnaryOp .USub (.Constant (.int 1) k p1) p2)) p3) pos) (tRevL K te) (wRevL we) := by
  subst hK
  refine ⟨pe_revL he.pe, fun E am M σ δ H S Qd q Q k => he.sim E am M σ δ H S _ q _ fun v r δ1 H1 S1 e1 o1 rv ⟨ds, er, q⟩ => ?_⟩
  have rb := rv.k.rb S1
  rw [er] at rb
  obtain ⟨p, xs, rfl, hp, r⟩ := rb.lst
  refine ⟨p, xs, rfl, SqL.of hp, fun l hl => ?_⟩
  exact k _ _ δ1 _ (S1.grow (same_new hl)) (e1.trans o1 (Ext.of (δ := δ1) (same_new hl))) o1 ((rn_lst hl r.reverse).rv S1 (same_new hl)) q
end
end L3
namespace L3
open PySem PySem.Spec PyProof.Rows L2
def rBop (C : Addr) (sp : Sp) (Ex : XK) : R2 := fun x y H Q => (∃ a dx fs, x = .ref a ∧ H a = some (.ins C dx fs)) ∧ (∃ b dx fs, y = .ref b ∧ H b = some (.ins C dx fs)) ∧ sp [x, y] H (fun v H3 => (∃ p, v = .ref p) ∧ Q v H3) Ex
section
variable {X : Cx} {CX : CXT} {k : Nat} {f C : Addr} {fd : FuncData} {ps : List Str} {sp : Sp} {ds : List Value} {Ex : XK} {op : Operator} {mn : Str}
theorem op_bop (hsf : PySem.W.selfFirst X.K C = true) (hs : PySem.W.findIn X.K (.ref C) (PySem.dunder op.info.2) = some (some (.ref f))) (hf : PySem.W.isFn X.K (.ref f) = true) (F : FnG X.prog X.w X.K X.mg X.base CX k f fd ps sp) (hr : Room k X.A) (hg : X.A.guards = some [])
    (hb : KB X.K fd ps 2 [] [0, 1] []) (hx : Passes CX X Ex) : OpR X (binaryOp op) (rBop C sp Ex) := by
  intro pins s σ H x y v u Q I rx ry ⟨⟨a, dx, fs, ex, ha⟩, ⟨b, dx', fs', ey, hb'⟩, h⟩
  subst ex ey
  obtain rfl : v = Value.ref a := rx
  obtain rfl : u = Value.ref b := ry
  obtain ⟨ox, od, J, _⟩ := ins_at I ha
  obtain ⟨ox', od', J', _⟩ := ins_at I hb'
  have X' := I.kIn
  obtain ⟨cd, hcd, hm⟩ := PySem.W.any_some hsf
  obtain ⟨rest, hm⟩ : ∃ rest, cd.mro = .ref C :: rest := by
    cases q : cd.mro with
    | nil => rw [q] at hm; cases hm
    | cons a r => rw [q] at hm; exact ⟨r, by rw [List.head?_cons] at hm; cases (beq_iff_eq.mp hm); rfl⟩
  have bt := hb s [.ref a, .ref b] [] X' rfl rfl
  have run : wpAny (model X.prog X.w) X.A (call (.ref f) [.ref a, .ref b]) (EP X pins σ fun v H3 => (∃ p, v = .ref p) ∧ Q v H3) X.xe s :=
    wp_of_code (α := Unit) (F.call (vs := [.ref a, .ref b]) hr hg hx I (fun _ => bt) (.cons (show RelV (V.ref a) (Value.ref a) from rfl) (.cons (show RelV (V.ref b) (Value.ref b) from rfl) .nil)) h)
  unfold binaryOp
  refine wpAny_holding (wpAny_bind ?_)
  unfold binaryOp1
  refine wpAny_bind (J.type.here (wpAny_bind (J'.type.here (wpAny_bind ((PySem.W.fills_K X' hcd hm hs).here ?_)))))
  simp only [beq_self_eq_true, if_true]
  refine wpAny_bind (wpAny_pure ?_)
  simp only [Bool.and_false, Bool.false_eq_true, if_false, Bool.false_and]
  refine wpAny_bind (wpAny_pure ?_)
  simp only [Bool.false_eq_true, if_false]
  refine wpAny_bind (m := tryMethod (.ref a) _ (.ref b)) ?_
  unfold tryMethod
  refine wpAny_bind (PySem.W.special_fn X' J hs (beq_iff_eq.mp hf) (wpAny_mono run (fun r s' hv => ?_) fun _ _ e => e))
  obtain ⟨v, H', I', rv, ⟨p, ev⟩, q⟩ := hv
  subst ev
  obtain rfl : r = Value.ref p := rv
  exact wpAny_pure (wpAny_pure (wpAny_pure ⟨.ref p, H', I', rfl, q⟩))
end
@[simp] def wBop (t : Nat) (C : Con) (wa wb : WE) : WE := fun δ Q => wa δ fun r δ1 => wb δ1 fun s δ2 => ¬ r.bor ∧ ¬ s.bor ∧ (∃ fs, r.d = .ins t fs) ∧ (∃ fs, s.d = .ins t fs) ∧ C [r.d, s.d] δ2.n fun d n' => (∃ t' fs, d = .ins t' fs) ∧ Q (.sh d) ⟨δ2.sl, n'⟩
section
variable {X : Cx} {K : PySem.W.Frag} {E : Ent} {Gf : Addr → Addr → Gx} {a c : Addr} {C : Con} {ta tb : TE} {wa wb : WE} {t : Nat} {Ex : XK}
theorem sim_bop (ha : SimE K (Gf a c) E ta wa) (hb : SimE K (Gf a c) E tb wb) : SimE K (Gf a c) E (tOp (rBop ((Gf a c).cls t) (lift K Gf C) Ex) ta tb) (wBop t C wa wb) := fun am M σ δ H S Qd q Q k => by
  refine ha am M σ δ H S _ q _ fun x r δ1 H1 S1 e1 o1 rv q => ?_
  refine hb am M σ δ1 H1 S1 _ q _ fun y s δ2 H2 S2 e2 o2 sv ⟨n1, n2, ⟨fs, ef⟩, ⟨fs', ef'⟩, hc⟩ => ?_
  have r1 := (rv.k.later (δ2 := δ2) S1 e2 (fun b => (n1 b).elim)).rep n1
  have r2 := sv.k.rep n2
  have i1 := r1
  have i2 := r2
  rw [ef] at i1
  rw [ef'] at i2
  obtain ⟨p, dx, xs, ep, hp, _⟩ := i1
  obtain ⟨p', dx', xs', ep', hp', _⟩ := i2
  refine ⟨⟨p, dx, _, ep, mask_le _ _ hp⟩, ⟨p', dx', _, ep', mask_le _ _ hp'⟩, ?_⟩
  refine lift_use (Qd := fun r δ' => (∃ t' fs, r.d = .ins t' fs) ∧ Qd r δ') (vs := [x, y]) (ds := [r.d, s.d]) S2 (RepAll.cons r1 (RepAll.cons r2 (show RepAll _ _ _ [] [] from rfl))) hc fun v r δ' H' S' e' o' rv ⟨⟨t', fs, er⟩, hq⟩ => ⟨?_, ?_⟩
  · have rb := rv.k.rb S'
    rw [er] at rb
    obtain ⟨p, _, _, e, _⟩ := rb.ins
    exact ⟨p, e⟩
  · exact k v r δ' H' S' ((e1.trans o1 e2).trans (fun i z => o1 i (o2 i z)) e') (fun i z => o1 i (o2 i (o' i z))) rv hq
theorem de_bop {op : Operator} {x y : Expr} {pos : Pos} {k : Nat} {f : Addr} {fd : FuncData} {ps : List Str} (K : PySem.W.Frag) (t : Nat) (hsf : PySem.W.selfFirst K ((Gf a c).cls t) = true) (hs : PySem.W.findIn K (.ref ((Gf a c).cls t)) (PySem.dunder op.info.2) = some (some (.ref f))) (hf : PySem.W.isFn K (.ref f) = true)
    (F : FnG X.prog X.w K X.mg X.base CX0 k f fd ps (lift K Gf C)) (hr : Room k X.A) (hg : X.A.guards = some []) (hb : KB K fd ps 2 [] [0, 1] []) (hx : DE X (Gf a c) x ta wa) (hy : DE X (Gf a c) y tb wb) (hK : X.K = K := by rfl) :
    DE X (Gf a c) (.BinOp x op y pos) (tOp (rBop ((Gf a c).cls t) (lift K Gf C) E0) ta tb) (wBop t C wa wb) := by
  subst hK
  exact ⟨pe_op (op_bop hsf hs hf F hr hg hb pass0) hx.pe hy.pe, fun E => sim_bop (hx.sim E) (hy.sim E)⟩
end
end L3
namespace L3
open PySem PySem.Spec PyProof.Rows L2
section
variable {X : Cx} {CX : CXT} {k n m : Nat} {f C g q : Addr} {fd : FuncData} {ps ks : List Str} {sp : Sp} {dvs : List V} {ds : List Value} {E : XK} {x mn : Str} {p pos apos : Pos} {e o fe : Expr} {es : List Expr} {kws : List Keyword} {ta : TE} {t tk : TA} {perm : List Nat} {mc : Value} {pa : Addr}
def tMakeE (C : Addr) (sp : Sp) (n m : Nat) (perm : List Nat) (dvs : List V) (E : XK) (ta : TE) (t tk : TA) : TE := fun σ H Q => ta σ H fun x H1 => x = .ref C ∧ tMakeP C sp n m perm dvs E t tk σ H1 Q
theorem pg_makeE (he : PE X fe ta) (M : Mk X.K C f) (F : FnG X.prog X.w X.K X.mg X.base CX k f fd ps sp) (hr : Room (k + 1) X.A) (hg : X.A.guards = some []) (hb : KBm X.K fd ps n ks perm ds) (hd : Vals dvs ds) (hx : Passes CX X E)
    (ok : ArgsOk X es kws pos ks) (hn : es = [] → t = tNil) (ha : PA X es t) (hkw : PK X kws tk)
    (ht : eval (.Call fe es kws pos) X.env = (do callWith pos (← eval fe X.env) [] (backTo pos (starEach es X.env)) (backToKw pos (keywordEach kws X.env)))) : PE X (.Call fe es kws pos) (tMakeE C sp n ks.length perm dvs E ta t tk) := by
  refine ⟨fun pins s σ H Q I h => ?_⟩
  rw [ht]
  refine wpAny_bind (thn (he.run pins s σ H _ I h) fun u s1 ⟨x, H1, I1, rx, ex, q⟩ => ?_)
  subst ex
  obtain rfl : u = Value.ref C := rx
  exact callw (first := []) ok hn M.kp ha hkw I1 q fun us ws vs zs s2 H2 I2 r rz ⟨l1, l2, q⟩ => make_run M F hr hg hb hd hx I2 r rz l1 l2 q
/-- e.m(..), e the class at C, m a classmethod -/
def tCMethP (C : Addr) (sp : Sp) (n m : Nat) (perm : List Nat) (dvs : List V) (E : XK) (ta : TE) (t tk : TA) : TE := fun σ H Q => ta σ H fun x H1 => x = .ref C ∧
  t σ H1 fun vs H2 => tk σ H2 fun zs H3 => vs.length = n ∧ zs.length = m ∧ sp (.ref C :: pick perm (vs ++ zs ++ dvs)) H3 Q E
theorem pg_cmeth {pl : Sem Bool} (he : PE X o ta) (rd : ClX.CRead X.K C mc) (c : ClX.CMet X.K C mc mn pa f) (F : FnG X.prog X.w X.K X.mg X.base CX k f fd ps sp) (hr : Room k X.A) (hg : X.A.guards = some []) (hb : KBm X.K fd ps n ks perm ds) (hd : Vals dvs ds) (hx : Passes CX X E)
    (ok : ArgsOk X es kws pos ks) (hn : es = [] → t = tNil) (ha : PA X es t) (hkw : PK X kws tk)
    (ht : eval (.Call (.Attribute o mn apos) es kws pos) X.env = (do
      let ov ← eval o X.env
      standAt apos.atName
      let (f, first) ← holding [ov] (getMethod ov mn pl)
      callWith pos f first (backTo pos (starEach es X.env)) (backToKw pos (keywordEach kws X.env)))) :
    PE X (.Call (.Attribute o mn apos) es kws pos) (tCMethP C sp n ks.length perm dvs E ta t tk) := by
  refine ⟨fun pins s σ H Q I h => PySem.W.methodCall_KW (pl := pl) (thn (he.run pins s σ H _ I h) fun u s1 ⟨x, H1, I1, rx, ex, q⟩ => ?_) ht⟩
  subst ex
  obtain rfl : u = Value.ref C := rx
  refine ClX.getmethcm_ok I1 rd c fun s2 I2 => ?_
  refine PySem.W.callWith_of (P := PySem.W.MethP X.K s1.heap.objs.size f (.ref C)) ok.pl (PySem.W.keeps_M c.fi) (args_run ok hn ha hkw I2 q fun us ws vs zs s3 H3 I3 r rz ⟨l1, l2, q2⟩ => ⟨⟨ClX.pin_at I3, I3.kIn⟩, ?_⟩)
  have z := FnG.callM (va := .ref C) (a := .ref C) F hr hg hx I3 hb hd rfl r rz l1 l2 q2
  have z2 : wpAny (model X.prog X.w) X.A (call (.ref s1.heap.objs.size) us (ks.zip ws)) (EP X ((s1.heap.objs.size, PySem.W.methodObj (.ref f) (.ref C)) :: pins) σ Q) X.xe s3 :=
    wpAny_call (PySem.W.method_call (ClX.pin_at I3) z)
  exact thn z2 fun _ _ y => ClX.unpinE y
/-- C.m is a static method -/
structure CSta (K : PySem.W.Frag) (C : Addr) (mc : Value) (m : Str) (p g : Addr) : Prop where
  at_ : PySem.W.findCls K (.ref C) mc m = some (.get (.builtin "staticmethod.__get__") (.ref p) .none (.ref C))
  rc : ∃ rest, PySem.W.recIn K p "staticmethod" = some (.ref g :: rest)
  kp : PySem.W.keepIn K (.ref g) = true
theorem getsta_ok {pl : Sem Bool} {pins : List (Addr × Obj)} {σ : L2.St} {H : Hp} {s : Shared} {A : Around} {Er : Value → Shared → Prop} {Q : Value × List Value → Shared → Prop} (I : Inv X pins σ H s) (r : ClX.CRead X.K C mc) (c : CSta X.K C mc mn pa f)
    (h : ∀ s', Inv X pins σ H s' → Q (.ref f, []) s') : wpAny (model X.prog X.w) A (getMethod (.ref C) mn pl) Q Er s := by
  obtain ⟨rest, hp⟩ := c.rc
  refine PySem.W.method_cls I.kIn r.ga (PySem.W.cls_bind I.kIn r.rd c.at_ ?_)
  refine wpAny_call (PySem.W.sm_get (s := { s with toks := s.toks + 1 }) I.kIn hp (PySem.W.handed_on (handed_of (show RelV (V.ref f) (Value.ref f) from rfl)) ?_))
  exact h _ (I.tok _)
/-- e.m(..), e the class at C, m a static method -/
def tSMethP (C : Addr) (sp : Sp) (n m : Nat) (perm : List Nat) (dvs : List V) (E : XK) (ta : TE) (t tk : TA) : TE := fun σ H Q => ta σ H fun x H1 => x = .ref C ∧
  t σ H1 fun vs H2 => tk σ H2 fun zs H3 => vs.length = n ∧ zs.length = m ∧ sp (pick perm (vs ++ zs ++ dvs)) H3 Q E
theorem callS_run {pins : List (Addr × Obj)} {σ : L2.St} {H : Hp} {s : Shared} {Q : VK} {us ws : List Value} {vs zs : List V} (F : FnG X.prog X.w X.K X.mg X.base CX k f fd ps sp) (hr : Room k X.A) (hg : X.A.guards = some []) (hx : Passes CX X E)
    (I : Inv X pins σ H s) (hb : KB X.K fd ps n ks perm ds) (hd : Vals dvs ds) (r : Vals vs us) (rz : Vals zs ws) (l1 : vs.length = n) (l2 : zs.length = ks.length) (h : sp (pick perm (vs ++ zs ++ dvs)) H Q E) :
    wpAny (model X.prog X.w) X.A (call (.ref f) us (ks.zip ws)) (EP X pins σ Q) X.xe s :=
  wp_of_code (α := Unit) (F.call hr hg hx I (fun _ => hb s us ws I.kIn (by rw [← r.length, l1]) (by rw [← rz.length, l2])) (pick_vals ((r.append rz).append hd)) h)
theorem pg_smeth {pl : Sem Bool} (he : PE X o ta) (rd : ClX.CRead X.K C mc) (c : CSta X.K C mc mn pa f) (F : FnG X.prog X.w X.K X.mg X.base CX k f fd ps sp) (hr : Room k X.A) (hg : X.A.guards = some []) (hb : KB X.K fd ps n ks perm ds) (hd : Vals dvs ds) (hx : Passes CX X E)
    (ok : ArgsOk X es kws pos ks) (hn : es = [] → t = tNil) (ha : PA X es t) (hkw : PK X kws tk)
    (ht : eval (.Call (.Attribute o mn apos) es kws pos) X.env = (do
      let ov ← eval o X.env
      standAt apos.atName
      let (f, first) ← holding [ov] (getMethod ov mn pl)
      callWith pos f first (backTo pos (starEach es X.env)) (backToKw pos (keywordEach kws X.env)))) :
    PE X (.Call (.Attribute o mn apos) es kws pos) (tSMethP C sp n ks.length perm dvs E ta t tk) := by
  refine ⟨fun pins s σ H Q I h => PySem.W.methodCall_KW (pl := pl) (thn (he.run pins s σ H _ I h) fun u s1 ⟨x, H1, I1, rx, ex, q⟩ => ?_) ht⟩
  subst ex
  obtain rfl : u = Value.ref C := rx
  refine getsta_ok I1 rd c fun s2 I2 => ?_
  exact callw (first := []) ok hn c.kp ha hkw I2 q fun us ws vs zs s3 H3 I3 r rz ⟨l1, l2, q2⟩ => callS_run F hr hg hx I3 hb hd r rz l1 l2 q2
end
@[simp] def wCls (t : Nat) : WE := fun δ Q => Q (.sh (.cls t)) δ
@[simp] def wMakeE (t : Nat) (C : Con) (n m : Nat) (perm : List Nat) (dd : List D) (wo : WE) (w wk : WA) : WE := fun δ Q => wo δ fun r δ0 => r.d = .cls t ∧ wCallP C n m perm dd w wk δ0 Q
@[simp] def wCMeth (t : Nat) (C : Con) (n m : Nat) (perm : List Nat) (dd : List D) (wo : WE) (w wk : WA) : WE := fun δ Q => wo δ fun r δ0 => r.d = .cls t ∧ w δ0 fun rs δ1 => wk δ1 fun qs δ2 => keeps rs ∧ keeps qs ∧ rs.length = n ∧ qs.length = m ∧
  C (.cls t :: pick perm (rs.map RD.d ++ qs.map RD.d ++ dd)) δ2.n fun d n' => Q (.sh d) ⟨δ2.sl, n'⟩
@[simp] def wSMeth (t : Nat) (C : Con) (n m : Nat) (perm : List Nat) (dd : List D) (wo : WE) (w wk : WA) : WE := fun δ Q => wo δ fun r δ0 => r.d = .cls t ∧ w δ0 fun rs δ1 => wk δ1 fun qs δ2 => keeps rs ∧ keeps qs ∧ rs.length = n ∧ qs.length = m ∧
  C (pick perm (rs.map RD.d ++ qs.map RD.d ++ dd)) δ2.n fun d n' => Q (.sh d) ⟨δ2.sl, n'⟩
section
variable {X : Cx} {K : PySem.W.Frag} {E : Ent} {Gf : Addr → Addr → Gx} {a c : Addr} {C : Con} {dd : List D} {dvs : List V} {to : TE} {wo : WE} {ts tk : TA} {wa wk : WA} {n m t : Nat} {perm : List Nat} {Ex : XK}
theorem RB.cls {G : Gx} {M : List Addr} {H : Hp} {v : V} (h : RB K G M H v (.cls t)) : v = .ref (G.cls t) := h.full
theorem sim_makeE (ho : SimE K (Gf a c) E to wo) (h : SimA K (Gf a c) E ts wa) (h' : SimA K (Gf a c) E tk wk) (hd : Dfl K (Gf a c) dvs dd) : SimE K (Gf a c) E (tMakeE ((Gf a c).cls t) (liftI K Gf t C) n m perm dvs Ex to ts tk) (wMakeE t C n m perm dd wo wa wk) := fun am M σ δ H S Qd q Q k =>
  ho am M σ δ H S _ q _ fun x r δ0 H0 S0 e0 o0 r0 ⟨er, q⟩ => by
    have rb := r0.k.rb S0
    rw [er] at rb
    exact ⟨rb.cls, sim_make h h' hd am M σ δ0 H0 S0 _ q _ fun v r δ' H' S' e o rv hq => k v r δ' H' S' (e0.trans o0 e) (fun i z => o0 i (o i z)) rv hq⟩
theorem sim_cmeth (ho : SimE K (Gf a c) E to wo) (h : SimA K (Gf a c) E ts wa) (h' : SimA K (Gf a c) E tk wk) (hd : Dfl K (Gf a c) dvs dd) : SimE K (Gf a c) E (tCMethP ((Gf a c).cls t) (lift K Gf C) n m perm dvs Ex to ts tk) (wCMeth t C n m perm dd wo wa wk) := fun am M σ δ H S Qd q Q k =>
  ho am M σ δ H S _ q _ fun x r δ0 H0 S0 e0 o0 r0 ⟨er, q⟩ => by
    have rb := r0.k.rb S0
    rw [er] at rb
    refine ⟨rb.cls, h am M σ δ0 H0 S0 _ q _ fun vs rs δ1 H1 S1 e1 o1 r1 q => h' am M σ δ1 H1 S1 _ q _ fun zs qs δ2 H2 S2 e2 o2 r2 ⟨k1, k2, l1, l2, hc⟩ => ?_⟩
    refine ⟨by rw [r1.length]; exact l1, by rw [r2.length]; exact l2, ?_⟩
    have rep := pick_rep (perm := perm) ((((r1.later (δ2 := δ2) S1 e2 k1).rep k1).append (r2.rep k2)).append (hd _))
    exact lift_use (ds := .cls t :: _) S2 (RepAll.cons (show Rep K (Gf a c) _ _ (.cls t) from rfl) rep) hc fun v r δ' H' S' e' o' rv hq =>
      k v r δ' H' S' (((e0.trans o0 e1).trans (fun i z => o0 i (o1 i z)) e2).trans (fun i z => o0 i (o1 i (o2 i z))) e') (fun i z => o0 i (o1 i (o2 i (o' i z)))) rv hq
theorem sim_smeth (ho : SimE K (Gf a c) E to wo) (h : SimA K (Gf a c) E ts wa) (h' : SimA K (Gf a c) E tk wk) (hd : Dfl K (Gf a c) dvs dd) : SimE K (Gf a c) E (tSMethP ((Gf a c).cls t) (lift K Gf C) n m perm dvs Ex to ts tk) (wSMeth t C n m perm dd wo wa wk) := fun am M σ δ H S Qd q Q k =>
  ho am M σ δ H S _ q _ fun x r δ0 H0 S0 e0 o0 r0 ⟨er, q⟩ => by
    have rb := r0.k.rb S0
    rw [er] at rb
    refine ⟨rb.cls, h am M σ δ0 H0 S0 _ q _ fun vs rs δ1 H1 S1 e1 o1 r1 q => h' am M σ δ1 H1 S1 _ q _ fun zs qs δ2 H2 S2 e2 o2 r2 ⟨k1, k2, l1, l2, hc⟩ => ?_⟩
    refine ⟨by rw [r1.length]; exact l1, by rw [r2.length]; exact l2, ?_⟩
    have rep := pick_rep (perm := perm) ((((r1.later (δ2 := δ2) S1 e2 k1).rep k1).append (r2.rep k2)).append (hd _))
    exact lift_use S2 rep hc fun v r δ' H' S' e' o' rv hq =>
      k v r δ' H' S' (((e0.trans o0 e1).trans (fun i z => o0 i (o1 i z)) e2).trans (fun i z => o0 i (o1 i (o2 i z))) e') (fun i z => o0 i (o1 i (o2 i (o' i z)))) rv hq
variable {k : Nat} {f : Addr} {fd : FuncData} {ps ks : List Str} {ds : List Value} {x mn : Str} {p pos apos : Pos} {o fe : Expr} {es : List Expr} {kws : List Keyword} {mc : Value} {pa : Addr}
theorem de_cls (t : Nat) {Gg : Gx} (hm : X.mg x = some (.ref (Gg.cls t))) (gl : Gl X x := by rfl) (hd : (x == ("__debug__" : Str)) = false := by decide) : DE X Gg (.Name x p) (tC (.ref (Gg.cls t))) (wCls t) := ⟨pe_glob gl hm rfl hd, fun E => sim_c fun H => rfl⟩
theorem de_makeE (K : PySem.W.Frag) (t : Nat) (M : Mk K ((Gf a c).cls t) f) (F : FnG X.prog X.w K X.mg X.base CX0 k f fd ps (liftI K Gf t C)) (hr : Room (k + 1) X.A) (hg : X.A.guards = some []) (hb : KBm K fd ps n ks perm ds) (hv : Vals dvs ds) (hd : Dfl K (Gf a c) dvs dd)
    (he : DE X (Gf a c) fe to wo) (ha : DA X (Gf a c) es ts wa) (hkw : DK X (Gf a c) kws tk wk) (ok : ArgsOk X es kws pos ks := by exact ⟨by first | exact .inl rfl | exact .inr ⟨_, _, rfl, rfl⟩, rfl, rfl, rfl⟩) (hn : es = [] → ts = tNil := by first | exact fun _ => rfl | (intro h; cases h))
    (ht : eval (.Call fe es kws pos) X.env = (do callWith pos (← eval fe X.env) [] (backTo pos (starEach es X.env)) (backToKw pos (keywordEach kws X.env))) := by rfl) (hl : ks.length = m := by rfl) (hK : X.K = K := by rfl) :
    DE X (Gf a c) (.Call fe es kws pos) (tMakeE ((Gf a c).cls t) (liftI K Gf t C) n m perm dvs E0 to ts tk) (wMakeE t C n m perm dd wo wa wk) := by
  subst hK hl
  exact ⟨pg_makeE he.pe M F hr hg hb hv pass0 ok hn ha.pa hkw.pk ht, fun E => sim_makeE (he.sim E) (ha.sim E) (hkw.sim E) hd⟩
theorem de_cmeth {pl : Sem Bool} (K : PySem.W.Frag) (t : Nat) (rd : ClX.CRead K ((Gf a c).cls t) mc) (cm : ClX.CMet K ((Gf a c).cls t) mc mn pa f) (F : FnG X.prog X.w K X.mg X.base CX0 k f fd ps (lift K Gf C)) (hr : Room k X.A) (hg : X.A.guards = some []) (hb : KBm K fd ps n ks perm ds) (hv : Vals dvs ds) (hd : Dfl K (Gf a c) dvs dd)
    (he : DE X (Gf a c) o to wo) (ha : DA X (Gf a c) es ts wa) (hkw : DK X (Gf a c) kws tk wk) (ok : ArgsOk X es kws pos ks := by exact ⟨by first | exact .inl rfl | exact .inr ⟨_, _, rfl, rfl⟩, rfl, rfl, rfl⟩) (hn : es = [] → ts = tNil := by first | exact fun _ => rfl | (intro h; cases h))
    (ht : eval (.Call (.Attribute o mn apos) es kws pos) X.env = (do
      let ov ← eval o X.env
      standAt apos.atName
      let (f, first) ← holding [ov] (getMethod ov mn pl)
      callWith pos f first (backTo pos (starEach es X.env)) (backToKw pos (keywordEach kws X.env))) := by rfl) (hl : ks.length = m := by rfl) (hK : X.K = K := by rfl) :
    DE X (Gf a c) (.Call (.Attribute o mn apos) es kws pos) (tCMethP ((Gf a c).cls t) (lift K Gf C) n m perm dvs E0 to ts tk) (wCMeth t C n m perm dd wo wa wk) := by
  subst hK hl
  exact ⟨pg_cmeth he.pe rd cm F hr hg hb hv pass0 ok hn ha.pa hkw.pk ht, fun E => sim_cmeth (he.sim E) (ha.sim E) (hkw.sim E) hd⟩
theorem de_smeth {pl : Sem Bool} (K : PySem.W.Frag) (t : Nat) (rd : ClX.CRead K ((Gf a c).cls t) mc) (cm : CSta K ((Gf a c).cls t) mc mn pa f) (F : FnG X.prog X.w K X.mg X.base CX0 k f fd ps (lift K Gf C)) (hr : Room k X.A) (hg : X.A.guards = some []) (hb : KB K fd ps n ks perm ds) (hv : Vals dvs ds) (hd : Dfl K (Gf a c) dvs dd)
    (he : DE X (Gf a c) o to wo) (ha : DA X (Gf a c) es ts wa) (hkw : DK X (Gf a c) kws tk wk) (ok : ArgsOk X es kws pos ks := by exact ⟨by first | exact .inl rfl | exact .inr ⟨_, _, rfl, rfl⟩, rfl, rfl, rfl⟩) (hn : es = [] → ts = tNil := by first | exact fun _ => rfl | (intro h; cases h))
    (ht : eval (.Call (.Attribute o mn apos) es kws pos) X.env = (do
      let ov ← eval o X.env
      standAt apos.atName
      let (f, first) ← holding [ov] (getMethod ov mn pl)
      callWith pos f first (backTo pos (starEach es X.env)) (backToKw pos (keywordEach kws X.env))) := by rfl) (hl : ks.length = m := by rfl) (hK : X.K = K := by rfl) :
    DE X (Gf a c) (.Call (.Attribute o mn apos) es kws pos) (tSMethP ((Gf a c).cls t) (lift K Gf C) n m perm dvs E0 to ts tk) (wSMeth t C n m perm dd wo wa wk) := by
  subst hK hl
  exact ⟨pg_smeth he.pe rd cm F hr hg hb hv pass0 ok hn ha.pa hkw.pk ht, fun E => sim_smeth (he.sim E) (ha.sim E) (hkw.sim E) hd⟩
end
end L3
namespace L3
open PySem PySem.Spec PyProof.Rows L2
/-- classes whose instances may be called with one value -/
def Tab1 (X : Cx) (CX : CXT) (T : Addr → Sp → Prop) : Prop := ∀ C sp, T C sp → ∃ (k : Nat) (f : Addr) (fd : FuncData) (ps : List Str), CallI X.K C f ∧ FnG X.prog X.w X.K X.mg X.base CX k f fd ps sp ∧ Room k X.A ∧ KBm X.K fd ps 1 [] [0] []
section
variable {X : Cx} {CX : CXT} {T : Addr → Sp → Prop} {E : XK} {fn : Str} {p pos apos : Pos} {e o fe : Expr} {ta te : TE}
theorem getfld_ok {pl : Sem Bool} {pins : List (Addr × Obj)} {σ : L2.St} {H : Hp} {s : Shared} {A : Around} {Er : Value → Shared → Prop} {Q : Value × List Value → Shared → Prop} {a C dx : Addr} {fs : List (Str × V)} {v : V} (I : Inv X pins σ H s) (hi : H a = some (.ins C dx fs)) (c : Cls X.K C) (n : NoAttr X.K C fn) (l : fs.lookup fn = some v)
    (h : ∀ u s', Inv X pins σ H s' → RelV v u → Q (u, []) s') : wpAny (model X.prog X.w) A (getMethod (.ref a) fn pl) Q Er s := by
  obtain ⟨mA, O, r, _, _, _⟩ := ins_get I.hok hi
  obtain ⟨od, J, hl⟩ := O.look
  exact PySem.W.method_usual (r := none) I.kIn J (PySem.W.plainGet_of (c.get fn)).1 (PySem.W.plainGet_of (c.get fn)).2 n rfl (getattr_ok I hi c n l fun u s' I' ru => h u s' I' ru)
/-- o.f(e), f a field that holds an instance -/
def tFInst1 (K : PySem.W.Frag) (T : Addr → Sp → Prop) (fn : Str) (E : XK) (ta te : TE) : TE := fun σ H Q => ta σ H fun x H1 => ∃ a D dx fs b, x = .ref a ∧ H1 a = some (.ins D dx fs) ∧ Cls K D ∧ NoAttr K D fn ∧ fs.lookup fn = some (.ref b) ∧
  te σ H1 fun z H2 => ∃ y, [z] = [y] ∧ ([] : List V) = [] ∧ ∃ C sp dx fs, T C sp ∧ H2 b = some (.ins C dx fs) ∧ sp [.ref b, y] H2 Q E
theorem pg_finst1 {pl : Sem Bool} (he : PE X o ta) (hT : Tab1 X CX T) (hg : X.A.guards = some []) (hx : Passes CX X E) (ha : PE X e te) (ok : ArgsOk X [e] [] pos []) (hs : starEach [e] X.env = (false, eval e X.env) :: starEach [] X.env)
    (ht : eval (.Call (.Attribute o fn apos) [e] [] pos) X.env = (do
      let ov ← eval o X.env
      standAt apos.atName
      let (f, first) ← holding [ov] (getMethod ov fn pl)
      callWith pos f first (backTo pos (starEach [e] X.env)) (backToKw pos (keywordEach [] X.env)))) : PE X (.Call (.Attribute o fn apos) [e] [] pos) (tFInst1 X.K T fn E ta te) := by
  refine ⟨fun pins s σ H Q I h => PySem.W.methodCall_KW (pl := pl) (thn (he.run pins s σ H _ I h) fun u s1 ⟨x, H1, I1, rx, a, D, dx, fs, b, ex, hi, c, n, l, q⟩ => ?_) ht⟩
  subst ex
  obtain rfl : u = Value.ref a := rx
  refine getfld_ok I1 hi c n l fun u s2 I2 ru => ?_
  obtain rfl : u = Value.ref b := ru
  refine calli (t := tCons te tNil) (tk := tNil) (B := fun vs zs H2 => ∃ y, vs = [y] ∧ zs = [] ∧ ∃ C sp dx fs, T C sp ∧ H2 b = some (.ins C dx fs) ∧ sp [.ref b, y] H2 Q E) ok (fun z => by cases z) (pa_cons ha pa_nil hs) pk_nil I2 ?_ fun us ws vs zs s3 H3 I3 r rz ⟨y, ey, ez, C, sp, dx, fs, tc, hb, q2⟩ => ?_
  · exact q
  · obtain ⟨k, f, fd, ps, ci, F, hr, kb⟩ := hT C sp tc
    subst ey ez
    exact ⟨⟨C, dx, fs, hb⟩, run_inst (perm := [0]) (dvs := []) ci F hr hg hx I3 hb kb .nil r rz rfl rfl q2⟩
end
/-- the table over data -/
def TabD (Gf : Addr → Addr → Gx) (a c : Addr) (K : PySem.W.Frag) (L : List (Nat × Con)) : Addr → Sp → Prop := fun A sp => ∃ t C, L.lookup t = some C ∧ A = (Gf a c).cls t ∧ sp = lift K Gf C
@[simp] def wFInst1 (tab : List (Nat × Nat)) (L : List (Nat × Con)) (wo we : WE) : WE := fun δ Q => wo δ fun r δ0 => ¬ r.bor ∧ fFld tab r.d fun f => ∃ t fs C, f.d = .ins t fs ∧ L.lookup t = some C ∧ we δ0 fun s δ1 => ¬ s.bor ∧ C [.ins t fs, s.d] δ1.n fun d n' => Q (.sh d) ⟨δ1.sl, n'⟩
section
variable {X : Cx} {K : PySem.W.Frag} {E : Ent} {Gf : Addr → Addr → Gx} {a c : Addr} {L : List (Nat × Con)} {ta te : TE} {wo we : WE} {fn : Str} {tab : List (Nat × Nat)} {Ex : XK}
theorem sim_finst1 (ok : FldOk K (Gf a c) fn tab) (ho : SimE K (Gf a c) E ta wo) (he : SimE K (Gf a c) E te we) : SimE K (Gf a c) E (tFInst1 K (TabD Gf a c K L) fn Ex ta te) (wFInst1 tab L wo we) := fun am M σ δ H S Qd q Q k =>
  ho am M σ δ H S _ q _ fun x r δ0 H0 S0 e0 o0 r0 ⟨nb, q⟩ => by
    have rr := r0.k.rep nb
    generalize r.d = d at q rr
    cases d <;> first | exact q.elim | skip
    obtain ⟨i, y, h1, h2, t, fs, C, ey, hL, q⟩ := q
    obtain ⟨p, dx, xs, rfl, hp, hl, rx⟩ := id rr
    obtain ⟨v, hv, rv⟩ := rx.get h2
    rw [show y = .ins t fs from ey] at rv
    obtain ⟨b, dx2, xs2, rfl, hb, hl2, rx2⟩ := id rv
    refine ⟨p, _, dx, _, b, rfl, mask_le _ _ hp, (ok.cl _ _ h1).1, (ok.cl _ _ h1).2, by rw [lookup_zip xs (ok.ix _ _ h1).1]; exact hv, ?_⟩
    refine he am M σ δ0 H0 S0 _ q _ fun z s δ1 H1 S1 e1 o1 sv ⟨ns, hc⟩ => ?_
    have rv' : Rep K (Gf a c) (mask M H1) (.ref b) (.ins t fs) := Rep.mono (S0.mask e1) _ rv
    obtain ⟨b', dx3, xs3, eb, hb3, _⟩ := id rv'
    cases eb
    refine ⟨z, rfl, rfl, _, _, dx3, _, ⟨t, C, hL, rfl, rfl⟩, mask_le _ _ hb3, ?_⟩
    exact lift_use (vs := [.ref b, z]) (ds := [.ins t fs, s.d]) S1 (RepAll.cons rv' (RepAll.cons (sv.k.rep ns) (show RepAll _ _ _ [] [] from rfl))) hc fun v r δ' H' S' e' o' rv hq =>
      k v r δ' H' S' ((e0.trans o0 e1).trans (fun i z => o0 i (o1 i z)) e') (fun i z => o0 i (o1 i (o' i z))) rv hq
/-- a row of the table -/
theorem tab1_nil : Tab1 X CX0 (TabD Gf a c X.K []) := fun C sp ⟨t, C', h, _⟩ => by simp at h
theorem tab1_cons {t k : Nat} {C : Con} {f : Addr} {fd : FuncData} {ps : List Str} (ci : CallI X.K ((Gf a c).cls t) f) (F : FnG X.prog X.w X.K X.mg X.base CX0 k f fd ps (lift X.K Gf C)) (hr : Room k X.A) (hb : KBm X.K fd ps 1 [] [0] []) (r : Tab1 X CX0 (TabD Gf a c X.K L)) : Tab1 X CX0 (TabD Gf a c X.K ((t, C) :: L)) := fun A sp ⟨u, C', h, e1, e2⟩ => by
  rw [List.lookup_cons] at h
  by_cases e : (u == t) = true
  · rw [e] at h
    cases h
    have e : u = t := beq_iff_eq.mp e
    subst e e1 e2
    exact ⟨k, f, fd, ps, ci, F, hr, hb⟩
  · rw [Bool.eq_false_iff.mpr e] at h
    exact r A sp ⟨u, C', h, e1, e2⟩
theorem de_finst1 {o e : Expr} {pos apos : Pos} {pl : Sem Bool} (ok : FldOk X.K (Gf a c) fn tab) (hT : Tab1 X CX0 (TabD Gf a c X.K L)) (hg : X.A.guards = some []) (ho : DE X (Gf a c) o ta wo) (he : DE X (Gf a c) e te we)
    (oka : ArgsOk X [e] [] pos [] := by exact ⟨.inr ⟨_, _, rfl, rfl⟩, rfl, rfl, rfl⟩) (hs : starEach [e] X.env = (false, eval e X.env) :: starEach [] X.env := by rfl)
    (ht : eval (.Call (.Attribute o fn apos) [e] [] pos) X.env = (do
      let ov ← eval o X.env
      standAt apos.atName
      let (f, first) ← holding [ov] (getMethod ov fn pl)
      callWith pos f first (backTo pos (starEach [e] X.env)) (backToKw pos (keywordEach [] X.env))) := by rfl) :
    DE X (Gf a c) (.Call (.Attribute o fn apos) [e] [] pos) (tFInst1 X.K (TabD Gf a c X.K L) fn E0 ta te) (wFInst1 tab L wo we) := ⟨pg_finst1 ho.pe hT hg pass0 he.pe oka hs ht, fun E => sim_finst1 ok (ho.sim E) (he.sim E)⟩
end
end L3
namespace L3
open PySem PySem.Spec PyProof.Rows L2
section
variable {K : PySem.W.Frag} {x qual : Str} {params : Arguments} {body : List Stmt} {scope : Scope} {kws : List (Str × V)} {f : Addr} {fd : FuncData} {ps : List Str}
theorem FunD.kbK (F : FunD K x qual params body scope [] kws f fd) (n : Nat) (ks : List Str) (perm : List Nat) (ms : List (Str × V)) (hk : kws ≠ []) (hms : ∀ q ∈ ms, q ∈ kws)
    (h : ∀ (D : Addr) (doc pm : Value) (an : Option Addr) (cdv ct : Value) (us mv ws : List Value), us.length = n → mv.length = ms.length → ws.length = ks.length →
      KwChain D ((ms.map (·.1)).zip mv) (bindArgs (PySem.W.fnOf x qual params body scope .none (.ref D) doc pm an cdv ct) ⟨us, ks.zip ws⟩) (ps.zip (pick perm (us ++ ws ++ mv)))) : ∃ mv : List Value, Vals (ms.map (·.2)) mv ∧ KB K fd ps n ks perm mv := by
  obtain ⟨oc, od, dV, kV, doc, pm, an, cdv, ct, osl, rfl, lk, hcd, hD, hK⟩ := F.ex
  rcases hD with ⟨_, rfl⟩ | ⟨e, _⟩
  · rcases hK with e | ⟨D, rfl, hq⟩
    · exact absurd e hk
    · obtain ⟨mv, hl, rk, hks⟩ := kwd_vals (ms := ms) fun q hm => hq q (hms q hm)
      exact ⟨mv, rk, fun s us ws X l1 l2 => BindsTo.of_looks fun M => KwChain.looks X hks (h D doc pm an cdv ct us mv ws l1 hl l2)⟩
  · exact absurd rfl e
end
end L3
namespace L3
open PySem L2
@[simp] def gLst3 (n : Nat) (t : WGs) : WG := fun d δ Q => ∃ ds, d = .lst ds ∧ ds.length = n ∧ t ds δ Q
section
variable {X : Cx} {G : Gx} {K : PySem.W.Frag}
theorem sim_gLst {n : Nat} {t : TGs} {ws : WGs} {us : List Nat} (h : SimGs K G us t ws) : SimG K G us (gLst K n t) (gLst3 n ws) := fun E am M σ δ H S x d r Qd ⟨ds, e, hl, q⟩ Q k => by
  subst e
  obtain ⟨a, xs, rfl, ht, rs⟩ := r
  exact ⟨a, xs, rfl, SqL.of (mask_le _ _ ht), by rw [rs.length]; exact hl, h E am M σ δ H S xs ds rs _ q _ k⟩
theorem dg_lstK (K : PySem.W.Frag) {es : List Expr} {k : Nat} {pos : Pos} {t : TGs} {ws : WGs} {us : List Nat} {n : Nat} (hc : X.calm = true) (h : DGs X G es us t ws) (hn : (assignEach es X.env).length = n := by rfl) (hst : (assignEach es X.env).findIdx? (·.1) = none := by rfl) (hK : X.K = K := by rfl) :
    DG X G (.Tuple es k pos) us (gLst K n t) (gLst3 n ws) := by
  subst hK
  exact ⟨pg_lst hc h.pg hn hst, sim_gLst h.sim⟩
end
end L3
namespace L3
open PySem PySem.Spec PyProof.Rows L2
theorem tuple_mulE (l : Addr) (items : Array Value) (n : Nat) (dd : Option Addr) (sl : Array (Option Value)) (x : Int) (u : Tok) (c0 : (decide (x < -(2 ^ 63)) || decide (x ≥ 2 ^ 63)) = false) (c1 : (items.isEmpty || x == 1) = true) :
    Meets (Builtin.«tuple.__mul__» ⟨[.ref l, .int x u], []⟩) (fun _ R s => s.heap.get? l = some { cls := .type "tuple", dict := dd, data := .seq items n, slots := sl } ∧ R (.ok (.ret (.ref l))) s) :=
  .of_wp fun prog w A R s h => by
    obtain ⟨hp, g, d, tk, os⟩ := s
    obtain ⟨hl, h⟩ := h
    have f1 := AutoSeq1.idx_int
    wp_walk using wpAny_loadPart' hl
    repeat (first
      | (refine wpAny_ite_false (decide_eq_false (by rw [c0]; exact Bool.false_ne_true)) ?_; wp_walk using wpAny_loadPart' hl)
      | (refine wpAny_ite_true (by rw [c1]) ?_; wp_walk using wpAny_loadPart' hl)
      | (refine wpAny_ite_true (by simp) ?_; wp_walk using wpAny_loadPart' hl))
    exact ⟨_, rfl, h⟩
theorem tuple_mulZ (l : Addr) (items : Array Value) (n : Nat) (dd : Option Addr) (sl : Array (Option Value)) (x : Int) (u : Tok) (c0 : (decide (x < -(2 ^ 63)) || decide (x ≥ 2 ^ 63)) = false) (c1 : (items.isEmpty || x == 1) = false) (c2 : (decide (x ≤ 0) || items.isEmpty) = true) :
    Meets (Builtin.«tuple.__mul__» ⟨[.ref l, .int x u], []⟩) (fun _ R s => s.heap.get? l = some { cls := .type "tuple", dict := dd, data := .seq items n, slots := sl } ∧
      R (.ok (.ret (Value.ref s.heap.objs.size))) { s with heap := s.heap.push { cls := Value.type "tuple", data := Data.seq #[] }, toks := s.toks }) :=
  .of_wp fun prog w A R s h => by
    obtain ⟨hp, g, d, tk, os⟩ := s
    obtain ⟨hl, h⟩ := h
    have f1 := AutoSeq1.idx_int
    wp_walk using wpAny_loadPart' hl
    repeat (first
      | (refine wpAny_ite_false (decide_eq_false (by rw [c0]; exact Bool.false_ne_true)) ?_; wp_walk using wpAny_loadPart' hl)
      | (refine wpAny_ite_false (decide_eq_false (by rw [c1]; exact Bool.false_ne_true)) ?_; wp_walk using wpAny_loadPart' hl)
      | (refine wpAny_ite_true (by rw [c2]) ?_; wp_walk using wpAny_loadPart' hl))
    exact ⟨_, rfl, h⟩
def rRepB (K : PySem.W.Frag) : R2 := fun x y H Q => ∃ l k xs, x = .ref l ∧ y = .int k ∧ SqT K H l xs ∧ -(2 ^ 62) ≤ k ∧ k ≤ 1000 ∧ xs.length ≤ 1000 ∧ (xs = [] ∨ k = 1 → Q (.ref l) H) ∧ (xs ≠ [] → k ≠ 1 → ∀ p, H p = none → Q (.ref p) (upd H p (.tup (List.replicate k.toNat xs).flatten)))
section
variable {X : Cx} {G : Gx} {K : PySem.W.Frag} {a b : Expr} {ta tb : TE} {wa wb : WE} {pos : Pos}
theorem op_repB : OpR X (binaryOp .Mult) (rRepB X.K) := by
  intro pins s σ H x y v u Q I rx ry h
  obtain ⟨l, k, xs, rfl, rfl, hT, h1, h2, hz, q1, q2⟩ := h
  by_cases e : xs = [] ∨ k = 1
  · cases rx
    obtain ⟨t, rfl⟩ := ry
    obtain ⟨its, r, ⟨⟨cls, dd, data, sl⟩, ho, hc, n, hd⟩, hs⟩ := I.tuple hT
    simp only at hc hd
    subst hc hd
    have c0 : (decide (k < -(2 ^ 63)) || decide (k ≥ 2 ^ 63)) = false := by
      rw [decide_eq_false (by omega), decide_eq_false (by omega)] <;> rfl
    have c1 : (its.toArray.isEmpty || k == 1) = true := by
      rcases e with e | e
      · subst e
        have : its = [] := List.eq_nil_of_length_eq_zero r.length.symm
        subst this
        rfl
      · subst e
        rw [Bool.or_eq_true]; exact .inr rfl
    refine wpAny_binaryOp_repeat_ref (T := "tuple") (U := "int") (by decide) ⟨_, ho, rfl⟩ (fun s' => typeIs_int s' k t) noFill_tuple_mul F.fills_int_mul F.slot_int_rmul repeat_tuple F.slot_int_index.lookup ?_
    refine call_meets F.slot_int_rmul (typeIs_int s k t) F.entry_int_rmul (F.args_int_rmul_2 _ _) (int_rmul_tuple k t l its.toArray n dd sl) ⟨ho, rfl, ⟨_, ho, rfl⟩, ?_⟩
    exact call_meets F.slot_tuple_mul ⟨_, ho, rfl⟩ F.entry_tuple_mul (F.args_tuple_mul_2 _ _) (tuple_mulE l its.toArray n dd sl k t c0 c1) ⟨ho, .ref l, H, I, rfl, q1 e⟩
  · have ne : xs ≠ [] := fun z => e (.inl z)
    have k1 : k ≠ 1 := fun z => e (.inr z)
    by_cases k2 : 2 ≤ k
    · exact op_repT pins s σ H _ _ v u Q I rx ry ⟨l, k, xs, rfl, rfl, hT, ne, k2, h2, hz, q2 ne k1⟩
    · cases rx
      obtain ⟨t, rfl⟩ := ry
      obtain ⟨its, r, ⟨⟨cls, dd, data, sl⟩, ho, hc, n, hd⟩, hs⟩ := I.tuple hT
      simp only at hc hd
      subst hc hd
      have hi : its.toArray.isEmpty = false := by
        cases its with
        | nil => exact absurd (List.eq_nil_of_length_eq_zero r.length) ne
        | cons a b => rfl
      have c0 : (decide (k < -(2 ^ 63)) || decide (k ≥ 2 ^ 63)) = false := by
        rw [decide_eq_false (by omega), decide_eq_false (by omega)] <;> rfl
      have c1 : (its.toArray.isEmpty || k == 1) = false := by
        rw [hi, Bool.false_or]
        exact beq_eq_false_iff_ne.mpr k1
      have c2 : (decide (k ≤ 0) || its.toArray.isEmpty) = true := by
        rw [decide_eq_true (by omega)] <;> rfl
      refine wpAny_binaryOp_repeat_ref (T := "tuple") (U := "int") (by decide) ⟨_, ho, rfl⟩ (fun s' => typeIs_int s' k t) noFill_tuple_mul F.fills_int_mul F.slot_int_rmul repeat_tuple F.slot_int_index.lookup
        (call_meets F.slot_int_rmul (typeIs_int s k t) F.entry_int_rmul (F.args_int_rmul_2 _ _) (int_rmul_tuple k t l its.toArray n dd sl)
          ⟨ho, rfl, ⟨_, ho, rfl⟩, call_meets F.slot_tuple_mul ⟨_, ho, rfl⟩ F.entry_tuple_mul (F.args_tuple_mul_2 _ _) (tuple_mulZ l its.toArray n dd sl k t c0 c1 c2) ⟨ho, ?_⟩⟩)
      have e0 : (List.replicate k.toNat xs).flatten = [] := by rw [show k.toNat = 0 by omega]; rfl
      have q2 := q2 ne k1
      rw [e0] at q2
      refine ⟨.ref s.heap.objs.size, _, I.laid (t' := s.toks) (o := .tup []) (fun b ob q => Heap.get?_push_of_some _ q) (Nat.le_refl _) ?_, rfl, q2 _ (I.hok.fresh (Nat.le_refl _))⟩
      exact ⟨Nat.zero_le _, [], .nil, IsTup.new _ _⟩
def fMulB : F2
  | .tup ds, .int j, Q => -(2 ^ 62) ≤ j ∧ j ≤ 1000 ∧ ds.length ≤ 1000 ∧ Q (.sh (.tup (List.replicate j.toNat ds).flatten))
  | d, e, Q => fMul d e Q
@[simp] theorem fMulB_0 (i j : Int) (Q : RD → Prop) : fMulB (.int i) (.int j) Q = (CMulW i j ∧ Q (.sh (.int (i * j)))) := rfl
@[simp] theorem fMulB_1 (ds : List D) (j : Int) (Q : RD → Prop) : fMulB (.lst ds) (.int j) Q = (j < 2 ^ 62 ∧ -(2 ^ 62) ≤ j ∧ ds.length * j.toNat ≤ 16777216 ∧ Q (.fr (.lst (List.replicate j.toNat ds).flatten))) := rfl
@[simp] theorem fMulB_2 (ds : List D) (j : Int) (Q : RD → Prop) : fMulB (.tup ds) (.int j) Q = (-(2 ^ 62) ≤ j ∧ j ≤ 1000 ∧ ds.length ≤ 1000 ∧ Q (.sh (.tup (List.replicate j.toNat ds).flatten))) := rfl
theorem flat_nil {α : Type} (k : Nat) : (List.replicate k ([] : List α)).flatten = [] := by
  induction k with
  | zero => rfl
  | succ k ih => rw [List.replicate_succ, List.flatten_cons, ih]; rfl
theorem ops_mulB : OpS K G (fun x y H Q => rMulA x y H Q ∨ rRepB K x y H Q) fMulB := fun M H x y d e al bx by' Qd h Q k => by
  by_cases z : ∃ ds j, d = .tup ds ∧ e = .int j
  · obtain ⟨ds, j, rfl, rfl⟩ := z
    obtain ⟨h1, h2, h3, q⟩ := h
    have bb := bx
    obtain ⟨p, xs, rfl, hp, r⟩ := bx.tup
    refine .inr ⟨p, j, xs, rfl, by'.int, hp, h1, h2, by rw [r.length]; exact h3, fun e => ?_, fun _ _ p' hp' => ?_⟩
    · have ef : (List.replicate j.toNat ds).flatten = ds := by
        rcases e with e | e
        · subst e
          have : ds = [] := List.eq_nil_of_length_eq_zero r.length.symm
          rw [this, flat_nil]
        · subst e; simp
      rw [ef] at q
      exact k _ _ H (Same.refl _) (rn_sh bb.shT) q
    · exact k _ _ _ (same_new hp') (rn_tup al hp' (r.rep _)) q
  · refine .inl (ops_mul M H x y d e al bx by' Qd ?_ Q k)
    cases d <;> cases e <;> first | exact h | exact (z ⟨_, _, rfl, rfl⟩).elim
theorem de_mulB (K : PySem.W.Frag) (ha : DE X G a ta wa) (hb : DE X G b tb wb) (hK : X.K = K := by rfl) : DE X G (.BinOp a .Mult b pos) (tOp (fun x y H Q => rMulA x y H Q ∨ rRepB K x y H Q) ta tb) (wOp fMulB wa wb) := by
  subst hK
  exact de_op (op_mulA.or op_repB) ops_mulB ha hb
def fSplit : F2
  | .str a, .str b, Q => (b.length == 0) = false ∧ a.length ≤ 16000000 ∧ Q (.fr (.lst ((Txt.split a b).map D.str)))
  | _, _, _ => False
@[simp] theorem fSplit_0 (a b : Str) (Q : RD → Prop) : fSplit (.str a) (.str b) Q = ((b.length == 0) = false ∧ a.length ≤ 16000000 ∧ Q (.fr (.lst ((Txt.split a b).map D.str)))) := rfl
theorem ops_split : OpS K G (fun x y H Q => ∃ a b, x = .str a ∧ [y] = [.str b] ∧ (b.length == 0) = false ∧ a.length + 2 ≤ sizeLine ∧ rNewStrs (Txt.split a b) H Q) fSplit := fun M H x y d e al bx by' Qd h Q k => by
  cases d <;> first | exact h.elim | skip
  cases e <;> first | exact h.elim | skip
  obtain ⟨h1, h2, q⟩ := h
  refine ⟨_, _, bx.str, by rw [by'.str], h1, by rw [sizeLine_eq]; omega, fun p hp => ?_⟩
  exact k _ _ _ (same_new hp) (rn_lst hp (RepAll.of_strs _)) q
theorem de_split {e o : Expr} {te ti : TE} {we wi : WE} {apos pos : Pos} (ho : DE X G o te we) (he : DE X G e ti wi) (hs : starEach [e] X.env = [(false, eval e X.env)] := by rfl) (hbase : attributeBase o "split" X.env (eval o X.env) = eval o X.env := by rfl) (hline : (apos.endLine == pos.line) = true := by rfl) :
    DE X G (.Call (.Attribute o "split" apos) [e] [] pos) (tM1 (fun x xs H Q => ∃ a b, x = .str a ∧ xs = [.str b] ∧ (b.length == 0) = false ∧ a.length + 2 ≤ sizeLine ∧ rNewStrs (Txt.split a b) H Q) te ti) (wM1 fSplit we wi) :=
  ⟨pe_split ho.pe he.pe hs hbase hline, fun E => sim_m1 ops_split (ho.sim E) (he.sim E)⟩
end
end L3
namespace L3
open PySem PySem.Spec PyProof.Rows L2
def rSumB (K : PySem.W.Frag) : List V → Hp → VK → Prop := fun vs H Q => ∃ (a : Addr) (ns : List Int), vs = [V.ref a] ∧ (SqL K H a (ns.map V.int) ∨ SqT K H a (ns.map V.int)) ∧ Q (.int ns.sum) H
def fSumB : FC := fun ds Q => ∃ ns : List Int, (ds = [.lst (ns.map D.int)] ∨ ds = [.tup (ns.map D.int)]) ∧ Q (.sh (.int ns.sum))
section
variable {X : Cx} {G : Gx} {K : PySem.W.Frag}
theorem cr_sumB (hc : X.calm = true) : CallR X (.builtin "sum") (rSumB X.K) := by
  intro pins s σ H vs us Q I r h
  obtain ⟨a, ns, rfl, hs, q⟩ := h
  rcases hs with hs | hs
  · exact cr_sum hc pins s σ H _ us Q I r ⟨a, ns, rfl, hs, q⟩
  · obtain ⟨its, rv, ⟨o, ho, hcl, n, hd⟩, _⟩ := I.tuple hs
    rw [Vals.ref1 r]
    have hi := rv.ints
    have ht : s.heap.IsTuple a its.toArray := ⟨o, ho, hcl, n, hd⟩
    obtain ⟨xs, hx⟩ := hi.allInts.items
    have hn : numsOf its.toArray.toList = ns := by rw [show its.toArray.toList = its from rfl, hi.numsOf]
    rw [hx] at ht hn
    rw [nums_intItems] at hn
    refine PySem.W.ktm_sumG (I.ok.hd hc) ht fun h' tk t' hk => ⟨.int _, H, I.kept hk, ⟨_, rfl⟩, ?_⟩
    rw [preSum_eq, List.take_of_length_le (by simp), hn]
    exact q
theorem calls_sumB : CallS K G (rSumB K) fSumB := fun M H vs ds al b Qd h Q k => by
  obtain ⟨ns, e, h⟩ := h
  rcases e with rfl | rfl
  · obtain ⟨p, rfl, hp⟩ := lst1 b
    exact ⟨p, ns, rfl, .inl hp, k _ _ H (Same.refl _) rn_int h⟩
  · obtain ⟨v, rfl, b1⟩ := b.one
    obtain ⟨p, xs, rfl, hp, r⟩ := b1.tup
    rw [r.ints] at hp
    exact ⟨p, ns, rfl, .inr hp, k _ _ H (Same.refl _) rn_int h⟩
theorem call_sumB (K : PySem.W.Frag) (hc : X.calm = true) (hK : X.K = K := by rfl) : CallR X (.builtin "sum") (rSumB K) := by subst hK; exact cr_sumB hc
end
end L3
namespace L3
open PySem L2
section
variable {X : Cx} {G : Gx} {e : Expr} {te : TE} {we : WE} {pos apos : Pos}
theorem de_popK (K : PySem.W.Frag) (i : Nat) {x : Str} {p : Pos} (hx : PE X (.Name x p) (tVar i)) (hbase : attributeBase (.Name x p) "pop" X.env (eval (.Name x p) X.env) = eval (.Name x p) X.env := by rfl) (hline : (apos.endLine == pos.line) = true := by rfl) (hK : X.K = K := by rfl) :
    DE X G (.Call (.Attribute (.Name x p) "pop" apos) [] [] pos) (tBM0 K "list" rPop (tVar i)) (wPop i) := by subst hK; exact de_pop i hx hbase hline
theorem de_popAtK (K : PySem.W.Frag) (i : Nat) {x : Str} {p : Pos} (he : DE X G e te we) (hx : PE X (.Name x p) (tVar i)) (hbase : attributeBase (.Name x p) "pop" X.env (eval (.Name x p) X.env) = eval (.Name x p) X.env := by rfl)
    (hfew : ((backTo pos (starEach [e] X.env)).all (fun x => !x.1) && (backToKw pos (keywordEach [] X.env)).all (fun x => x.1.isSome) && decide (([e] : List Expr).length + ([] : List Keyword).length + (if ([] : List Keyword).isEmpty then 0 else 1) < 30)) = true := by rfl)
    (hline : (apos.endLine == pos.line) = true := by rfl) (hst : starEach [e] X.env = (false, eval e X.env) :: starEach [] X.env := by rfl) (hK : X.K = K := by rfl) :
    DE X G (.Call (.Attribute (.Name x p) "pop" apos) [e] [] pos) (tBM K "list" rPopAt (tVar i) (tCons te tNil)) (wPopAt i we) := by subst hK; exact de_popAt i he hx hbase hfew hline hst
end
section
open PySem.Spec PyProof.Rows
variable {X : Cx} {K : PySem.W.Frag} {E : Ent} {Gf : Addr → Addr → Gx} {a c : Addr} {C : Con} {dd : List D} {dvs : List V} {to : TE} {wo : WE} {ts tk : TA} {wa wk : WA} {n m : Nat} {perm : List Nat}
variable {k : Nat} {f : Addr} {fd : FuncData} {ps ks : List Str} {ds : List Value} {x mn : Str} {p pos apos : Pos} {o : Expr} {es : List Expr} {kws : List Keyword}
theorem de_makeC (K : PySem.W.Frag) (t : Nat) (Ca : Addr) (hC : (Gf a c).cls t = Ca) (M : Mk K Ca f) (F : FnG X.prog X.w K X.mg X.base CX0 k f fd ps (liftI K Gf t C)) (hr : Room (k + 1) X.A) (hg : X.A.guards = some []) (hm : X.mg x = some (.ref Ca)) (hb : KBm K fd ps n ks perm ds) (hv : Vals dvs ds) (hd : Dfl K (Gf a c) dvs dd)
    (ha : DA X (Gf a c) es ts wa) (hkw : DK X (Gf a c) kws tk wk) (gl : Gl X x := by rfl) (ok : ArgsOk X es kws pos ks := by exact ⟨by first | exact .inl rfl | exact .inr ⟨_, _, rfl, rfl⟩, rfl, rfl, rfl⟩) (hn : es = [] → ts = tNil := by first | exact fun _ => rfl | (intro h; cases h)) (hdb : (x == ("__debug__" : Str)) = false := by decide) (hl : ks.length = m := by rfl) (hK : X.K = K := by rfl) :
    DE X (Gf a c) (.Call (.Name x p) es kws pos) (tMakeP Ca (liftI K Gf t C) n m perm dvs E0 ts tk) (wCallP C n m perm dd wa wk) := by
  subst hC
  exact de_make K t M F hr hg hm hb hv hd ha hkw gl ok hn hdb hl hK
end
end L3
namespace L3
open PySem PySem.Spec PyProof.Rows L2
section
variable {P : Program} {w : World} {A : Around} {E : Value → Shared → Prop} {s : Shared}
/-- the set that is made ahead of its items -/
abbrev soon (w : World) : Obj := { cls := .type "set", dict := none, data := .set #[] 0 (.fresh 0 0 (!w.params.followText "set-order")) }
/-- what set.__init__ leaves -/
def SetMade (w : World) (s : Shared) (ns : List Int) (s2 : Shared) : Prop := ∃ (h' : Heap) (tk c : Nat), s2 = { s with heap := h', toks := tk } ∧ SetR w h' s.heap.objs.size (fun j => decide (j ∈ ns)) c ∧ c ≤ ns.length ∧ ∀ b o, s.heap.get? b = some o → h'.get? b = some o
set_option maxHeartbeats 3200000 in
/-- the items of a list go into the set -/
theorem fill_list {l : Addr} {items : Array Value} (ns : List Int) (hh : A.handled = none) (hl : s.heap.IsList l items) (hit : IntsAre items.toList ns) (hb : ns.length + 1 < scanBound) :
    codeAny (model P w) A (.call (.builtin "set.__init__") ⟨[.ref s.heap.objs.size, .ref l], []⟩) (wants (fun r s2 => r = .none ∧ SetMade w s ns s2) E) { s with heap := s.heap.push (soon w) } := by
  have hsz : items.size = ns.length := by
    have q := IntsAre.length hit
    rw [Array.length_toList] at q
    exact q
  have hS : (s.heap.push (soon w)).get? s.heap.objs.size = some (soon w) := Heap.get?_push_size _ rfl
  have hT : Shared.TypeIs { s with heap := s.heap.push (soon w) } (.ref s.heap.objs.size) "set" := ⟨_, hS, rfl⟩
  refine codeAny_call_builtin F.called_set.init.plain F.entry_set_init (check_set_init_1 hT ?_)
  obtain ⟨⟨oc, od, odt, osl⟩, hol, hcl, nl, hdl⟩ := hl
  simp only at hcl hdl
  subst hcl hdl
  have hol' : (s.heap.push (soon w)).get? l = some { cls := .type "list", dict := od, data := .seq items nl, slots := osl } := Heap.get?_push_of_some _ hol
  have c1 := F.sub_list_set
  have c2 := F.sub_list_frozenset
  have c3 : (Value.type "list" == Value.type "dict") = false := by decide
  have hl1 : (s.heap.push (soon w)).IsList l items := ⟨_, hol', rfl, nl, rfl⟩
  unfold Builtin.«set.__init__» noKeywords Builtin.Frozenset.updateFrom
  generalize hPI : pyIter = PI
  wp_walk
  subst hPI
  refine wpAny_pyIter_list hl1 (wpAny_bind (wpAny_runValue ?_))
  have hlS : l < s.heap.objs.size := Heap.lt_size hol
  have hh3 : A.in1.in1.handled = none := by simp [hh]
  have z1 : l ≠ (s.heap.push (soon w)).objs.size := by rw [Heap.size_push]; exact Nat.ne_of_lt (Nat.lt_succ_of_lt hlS)
  have z2 : s.heap.objs.size ∉ [(s.heap.push (soon w)).objs.size, l] := by
    rw [Heap.size_push]; simp only [List.mem_cons, List.mem_singleton, List.not_mem_nil, or_false, not_or]
    exact ⟨Nat.ne_of_lt (Nat.lt_succ_self _), Nat.ne_of_gt hlS⟩
  have hval : ∀ (i : Nat) (v : Value), items[i]? = some v → ∃ k t, ns[i]? = some k ∧ v = .int k t := fun i v hv => by
    have hi : i < ns.length := by rw [← hsz]; exact (Array.getElem?_eq_some_iff.mp hv).1
    obtain ⟨t, e⟩ := IntsAre.int_at hit i v (by rw [Array.getElem?_toList]; exact hv)
    exact ⟨ns[i], t, List.getElem?_eq_getElem hi, by rw [e, List.getD_eq_getElem?_getD, List.getElem?_eq_getElem hi] <;> rfl⟩
  refine set_update_ints ((Walks.list hh3 _ l z1 items).toS) s.heap.objs.size z2 ns hsz hb hval (items.size - 0) 0 _ (by omega) (Nat.zero_le _) ⟨⟨_, Heap.get?_push_size _ rfl, rfl, rfl⟩, (hl1.push _)⟩
    ?hS0 ?hR
  case hS0 => exact ⟨0, Nat.le_refl 0, setR_new_at (Heap.get?_push_of_some _ hS)⟩
  intro s' c' hm hc' hS'
  obtain ⟨h', g2, d', tk', os'⟩ := s'
  obtain rfl : g2 = s.gens := hm.gens
  obtain rfl : d' = s.drawn := hm.drawn
  obtain rfl : os' = s.os := hm.os
  show wpAny _ _ _ _ _ _
  refine wpAny_pure ?_
  show wpAny _ _ (ret Value.none) _ _ _
  rw [hsz] at hc'
  refine wpAny_pure ⟨rfl, h', tk', c', rfl, hS', hc', fun b o e => hm.heap b o ?_ (Heap.get?_push_of_some _ (Heap.get?_push_of_some _ e))⟩
  have hb0 : b < s.heap.objs.size := Heap.lt_size e
  rw [Heap.size_push]
  simp only [List.mem_cons, List.mem_singleton, List.not_mem_nil, or_false, not_or]
  exact ⟨Nat.ne_of_lt hb0, Nat.ne_of_lt (Nat.lt_succ_of_lt hb0)⟩
set_option maxHeartbeats 3200000 in
theorem set_of_list {l : Addr} {items : Array Value} (ns : List Int) {Q : Value → Shared → Prop} (hh : A.handled = none) (hl : s.heap.IsList l items) (hit : IntsAre items.toList ns) (hb : ns.length + 1 < scanBound)
    (h : ∀ s2, SetMade w s ns s2 → Q (.ref s.heap.objs.size) s2) : wpAny (model P w) A (call (.type "set") [.ref l]) Q E s := by
  obtain ⟨c, tl, hmro⟩ := F.called_set.mro
  have h0 := F.called_set.made
  have h3 := F.called_set.sub
  refine wpAny_call (codeAny_of_tree ?_)
  show wpAny _ _ (callAny (.type "set") _) _ _ _
  refine wpAny_pure ⟨Code.quiet_builtin _ (by decide +kernel), codeAny_builtin F.entry_type_call ?_⟩
  rw [Around.under_plain (weight_type_call_type "set" [.ref l] []) rfl]
  have h1 := F.called_set.notType
  have h2 := F.called_set.canCreate
  have h4 := F.typeCall_set_1 (.ref l)
  repeat (any_goals (first | assumption | wp_step))
  refine codeAny_mono (code_set_led1 (.ref l) (E := E) (Q₁ := fun obj s1 => obj = .ref s.heap.objs.size ∧ s1 = { s with heap := s.heap.push (soon w) }) ⟨rfl, rfl⟩) fun r s1 hr => ?_
  cases r with
  | error e => exact hr
  | ok fl =>
    cases fl with
    | ret obj =>
      obtain ⟨rfl, rfl⟩ := hr
      have hT : Shared.TypeIs { s with heap := s.heap.push (soon w) } (.ref s.heap.objs.size) "set" := ⟨_, Heap.get?_push_size _ rfl, rfl⟩
      have h5 := F.called_set.init.lookup
      have h6 := F.called_set.init.bind (.ref s.heap.objs.size)
      repeat (any_goals (first | assumption | wp_step))
      refine codeAny_mono (fill_list (w := w) (E := E) ns (A := A.in1) (by simp [hh]) hl hit hb) fun r2 s2 hr2 => ?_
      cases r2 with
      | error e => exact hr2
      | ok fl2 =>
        cases fl2 with
        | ret r =>
          obtain ⟨rfl, m⟩ := hr2
          repeat (any_goals (first | assumption | wp_step))
          exact h _ m
        | _ => exact hr2.elim
    | _ => exact hr.elim
end
section
variable {X : Cx}
/-- set(xs) -/
def rSetI (K : PySem.W.Frag) (w : World) : List V → Hp → VK → Prop := fun vs H Q => ∃ (a : Addr) (ns : List Int), vs = [V.ref a] ∧ SqL K H a (ns.map V.int) ∧ ns.length < 1000 ∧
  ∀ (p : Addr) (c : Nat), H p = none → c ≤ ns.length → Q (.ref p) (upd H p (SetO w p (fun j => decide (j ∈ ns)) c))
theorem cr_setI (hc : X.calm = true) : CallR X (.type "set") (rSetI X.K X.w) := by
  intro pins s σ H vs us Q I r h
  obtain ⟨a, ns, rfl, ha, hn, q⟩ := h
  rw [Vals.ref1 r]
  obtain ⟨its, rv, pl, hz⟩ := I.list ha
  have hi := ints_of_vals rv
  refine set_of_list ns (I.ok.hd hc) pl.isList (by simpa using hi) (by rw [show scanBound = 4096 from rfl]; omega) fun s2 ⟨h', tk, c, e, R, hc', k⟩ => ?_
  subst e
  exact ⟨.ref _, _, I.laid (t' := tk) k (Nat.le_refl _) (setO_new R), rfl, q _ _ (I.hok.fresh (Nat.le_refl _)) hc'⟩
end
end L3
namespace L3
open PySem PySem.Spec PyProof.Rows L2
section
variable {X : Cx} {G : Gx} {K : PySem.W.Frag} {E : Ent} {te ti to : TE} {we wi wo : WE} {e e1 o : Expr} {pos apos p p1 pos1 : Pos} {i : Nat}
@[simp] def wSortSet (we : WE) : WE := fun δ Q => we δ fun r δ1 => ∃ ns : List Int, r.d = .lst (ns.map D.int) ∧ ns.length < 64 ∧ ∀ ms : List Int, ms.Pairwise (· < ·) → (∀ k, k ∈ ms ↔ k ∈ ns) → Q (.fr (.lst (ms.map D.int))) δ1
theorem sim_sortSet (w : World) (h : SimE K G E te we) : SimE K G E (tCB (rSortedSet w) (tCons (tCB (rSetI K w) (tCons te tNil)) tNil)) (wSortSet we) := fun am M σ δ H S Qd q Q k =>
  h am M σ δ H S _ q _ fun v r δ1 H1 S1 e1 o1 rv ⟨ns, er, h64, q⟩ => by
    have rb := rv.k.rb S1
    rw [er] at rb
    obtain ⟨p, xs, rfl, hp, rx⟩ := rb.lst
    rw [rx.ints] at hp
    refine ⟨p, ns, rfl, SqL.of hp, by omega, fun p1 c hp1 hc => ?_⟩
    refine ⟨p1, _, c, rfl, upd_same, by omega, fun ms p2 h1 h2 h3 hp2 => ?_⟩
    have s1 := same_new (o := SetO w p1 (fun j => decide (j ∈ ns)) c) hp1
    have s2 := same_new (o := .lst (ms.map V.int)) hp2
    exact k (.ref p2) (.fr (.lst (ms.map D.int))) δ1 _ ((S1.grow s1).grow s2) (e1.trans o1 (Ext.of (δ := δ1) (s1.trans s2))) o1 ((rn_lst hp2 (RepAll.of_ints ms)).rv (S1.grow s1) s2) (q ms h1 fun k => by rw [h2]; simp)
theorem de_sortSet (hc : X.calm = true) (he : DE X G e te we) (hg : Gl X "sorted") (hm : X.mg "sorted" = none) (hg1 : Gl X "set") (hm1 : X.mg "set" = none) (hst : starEach [e] X.env = (false, eval e X.env) :: starEach [] X.env := by rfl) (hpl : (backTo pos1 (starEach [] X.env)).any (·.1) = false := by rfl)
    (he1 : starEach [.Call (.Name "set" p1) [e] [] pos1] X.env = (false, eval (.Call (.Name "set" p1) [e] [] pos1) X.env) :: starEach [] X.env := by rfl) (hpl1 : (backTo pos (starEach [] X.env)).any (·.1) = false := by rfl) :
    DE X G (.Call (.Name "sorted" p) [.Call (.Name "set" p1) [e] [] pos1] [] pos) (tCB (rSortedSet X.w) (tCons (tCB (rSetI X.K X.w) (tCons te tNil)) tNil)) (wSortSet we) :=
  ⟨pe_callB (cr_sortedSet hc) hg hm rfl (pa_cons (pe_callTy (cr_setI hc) hg1 hm1 (by rfl) (pa_cons he.pe pa_nil hst) (by decide) (by decide) hst hpl) pa_nil he1) (by decide) (by decide) he1 hpl1, fun E => sim_sortSet X.w (he.sim E)⟩
def fIdxL : F2
  | .lst ds, .int i, Q => ∃ ns : List Int, ds = ns.map D.int ∧ i ∈ ns ∧ Q (.sh (.int (ns.idxOf i : Nat)))
  | _, _, _ => False
@[simp] theorem fIdxL_0 (ds : List D) (i : Int) (Q : RD → Prop) : fIdxL (.lst ds) (.int i) Q = ∃ ns : List Int, ds = ns.map D.int ∧ i ∈ ns ∧ Q (.sh (.int (ns.idxOf i : Nat))) := rfl
def isL (d : D) (Q : List D → Prop) : Prop := match d with
  | .lst ds => Q ds
  | _ => False
@[simp] theorem isL_0 (ds : List D) (Q : List D → Prop) : isL (.lst ds) Q = Q ds := rfl
@[simp] def wL1 (f : F2) (a b : WE) : WE := fun δ Q => a δ fun x δ1 => isL x.d fun _ => b δ1 fun y δ2 => (x.bor → δ2.sl = δ1.sl) ∧ f x.d y.d fun q => Q q δ2
theorem sim_l1 {r : V → List V → Hp → VK → Prop} {f : F2} (hs : OpS K G (fun x y H Q => r x [y] H Q) f) (ha : SimE K G E to wo) (hb : SimE K G E te we) : SimE K G E (tBM K "list" r to (tCons te tNil)) (wL1 f wo we) := fun am M σ δ H S Qd h Q k => by
  refine ha am M σ δ H S _ h _ fun x rx δ1 H1 S1 e1 o1 v1 h => ?_
  have b0 := v1.k.rb S1
  cases er : rx.d <;> rw [er] at h <;> first | exact h.elim | skip
  rw [er] at b0
  obtain ⟨p, xs, rfl, hp, rx⟩ := b0.lst
  refine ⟨.inl ⟨rfl, xs, SqL.of hp⟩, ?_⟩
  refine hb am M σ δ1 H1 S1 _ h _ fun y ry δ2 H2 S2 e2 o2 v2 h => ?_
  obtain ⟨st, h⟩ := h
  have bx := (v1.k.later S1 e2 st).rb S2
  rw [er] at bx
  refine hs M H2 (.ref p) y _ _ S2.al bx (v2.k.rb S2) _ h _ fun v q H3 sm rn hq => ?_
  exact k v q δ2 H3 (S2.grow sm) ((e1.trans o1 e2).trans (fun i z => o1 i (o2 i z)) (Ext.of (δ := δ2) sm)) (fun i z => o1 i (o2 i z)) (rn.rv S2 sm) hq
theorem before_idx : ∀ (ns : List Int) (i : Int) (m : Nat), m < ns.idxOf i → ∀ z, ns[m]? = some z → (z == i) = false
  | [], _, _, h, _, e => by simp at e
  | a :: ns, i, m, h, z, e => by
    rw [List.idxOf_cons] at h
    cases q : (a == i) with
    | true => rw [q] at h; simp at h
    | false =>
      rw [q] at h
      cases m with
      | zero => rw [List.getElem?_cons_zero] at e; cases e; exact q
      | succ m =>
        rw [List.getElem?_cons_succ] at e
        exact before_idx ns i m (by simpa using h) z e
theorem ops_idxL : OpS K G (fun x y H Q => rIndex K x [y] H Q) fIdxL := fun M H x y d e al bx by' Qd h Q k => by
  cases d <;> first | exact h.elim | skip
  cases e <;> first | exact h.elim | skip
  obtain ⟨ns, rfl, hi, q⟩ := h
  rename_i i
  obtain ⟨p, xs, rfl, hp, rx⟩ := bx.lst
  rw [rx.ints] at hp
  have hlt : ns.idxOf i < ns.length := List.idxOf_lt_length_of_mem hi
  refine ⟨p, _, .int i, ns.idxOf i, .int ns[ns.idxOf i], rfl, by rw [by'.int], SqL.of hp, rfl, by rw [List.all_map]; exact List.all_eq_true.mpr fun _ _ => rfl, ?_, ?_, fun m z' hm hz => ?_, k _ _ H (Same.refl _) rn_int q⟩
  · rw [List.getElem?_map, List.getElem?_eq_getElem hlt]; rfl
  · show (ns[ns.idxOf i] == i) = true
    rw [List.getElem_idxOf]; exact beq_self_eq_true i
  · rw [List.getElem?_map, List.getElem?_eq_getElem (show m < ns.length by omega)] at hz
    obtain rfl := Option.some.inj hz
    show (ns[m] == i) = false
    exact before_idx ns i m hm _ (List.getElem?_eq_getElem (by omega))
theorem de_idxL (K : PySem.W.Frag) (ho : DE X G o to wo) (he : DE X G e te we) (hbase : attributeBase o "index" X.env (eval o X.env) = eval o X.env := by rfl)
    (hfew : ((backTo pos (starEach [e] X.env)).all (fun x => !x.1) && (backToKw pos (keywordEach [] X.env)).all (fun x => x.1.isSome) && decide (([e] : List Expr).length + ([] : List Keyword).length + (if ([] : List Keyword).isEmpty then 0 else 1) < 30)) = true := by rfl)
    (hline : (apos.endLine == pos.line) = true := by rfl) (hst : starEach [e] X.env = (false, eval e X.env) :: starEach [] X.env := by rfl) (hK : X.K = K := by rfl) :
    DE X G (.Call (.Attribute o "index" apos) [e] [] pos) (tBM K "list" (rIndex K) to (tCons te tNil)) (wL1 fIdxL wo we) := by
  subst hK
  exact ⟨pe_bm PySem.F.plainAttrs_list PySem.F.slot_list_index PySem.F.type_list_index mt_index ho.pe (pa_cons he.pe pa_nil hst) hbase hfew hline hst rfl, fun E => sim_l1 ops_idxL (ho.sim E) (he.sim E)⟩
def rInsert : V → List V → Hp → VK → Prop := fun x vs H Q => ∃ (l : Addr) (xs : List V) (i : Int) (y : V), x = .ref l ∧ vs = [.int i, y] ∧ H l = some (.lst xs) ∧ xs.length < sizeLine ∧ 0 ≤ i ∧ i < 2 ^ 63 ∧
    Q .non (upd H l (.lst (xs.take i.toNat ++ [y] ++ xs.drop i.toNat)))
@[simp] def wInsert (i : Nat) (wi we : WE) : WS := fun De δ => (∃ ds0, ownL δ i ds0) ∧ wi δ fun r0 δ0 => isI r0.d fun j => we δ0 fun r δ1 => ¬ r.bor ∧ ∃ ds, ownL δ1 i ds ∧ ds.length < 16777216 ∧ 0 ≤ j ∧ j < 2 ^ 62 ∧ De.nx ⟨δ1.sl.set i (some (.ow (.lst (ds.take j.toNat ++ [r.d] ++ ds.drop j.toNat)))), δ1.n⟩
theorem RepAll.take' {H : Hp} {xs : List V} {ds : List D} (n : Nat) (r : RepAll K G H xs ds) : RepAll K G H (xs.take n) (ds.take n) := by
  induction ds generalizing xs n with
  | nil => cases (show xs = [] from r); simp; exact rfl
  | cons d ds ih =>
    obtain ⟨x, xs', rfl, h1, h2⟩ := r
    cases n with
    | zero => exact rfl
    | succ n => exact ⟨x, _, rfl, h1, ih n h2⟩
theorem RepAll.drop' {H : Hp} {xs : List V} {ds : List D} (n : Nat) (r : RepAll K G H xs ds) : RepAll K G H (xs.drop n) (ds.drop n) := by
  induction ds generalizing xs n with
  | nil => cases (show xs = [] from r); simp; exact rfl
  | cons d ds ih =>
    obtain ⟨x, xs', rfl, h1, h2⟩ := r
    cases n with
    | zero => exact ⟨x, xs', rfl, h1, h2⟩
    | succ n => exact ih n h2
theorem sim_insert (h0 : ∀ E, SimE K G E ti wi) (h : ∀ E, SimE K G E te we) : SimS K G (tDrop (tBM K "list" rInsert (tVar i) (tCons ti (tCons te tNil)))) (wInsert i wi we) := fun E am M σ δ H S D3 ⟨⟨ds0, hd⟩, q⟩ De R => by
  obtain ⟨a1, a2, a3, a4, xs0, a5, a6⟩ := S.ow i _ hd
  refine ⟨_, a1, .inl ⟨rfl, xs0, SqL.of a5⟩, ?_⟩
  refine h0 E am M σ δ H S _ q _ fun v0 r0 δ0 H0 S0 e0 o0 rv0 q => ?_
  have rb0 := rv0.k.rb S0
  cases er : r0.d <;> rw [er] at q <;> first | exact q.elim | skip
  rename_i j
  rw [er] at rb0
  have ej := rb0.int
  subst ej
  refine h E am M σ δ0 H0 S0 _ q _ fun v r δ1 H1 S1 e1 o1 rv ⟨nb, ds, h1, sz, j0, j1, q⟩ => ?_
  obtain ⟨b1, b2, b3, b4, xs, b5, b6⟩ := S1.ow i _ h1
  refine ⟨am i, xs, j, v, rfl, rfl, b5, by rw [b6.length, line16]; exact sz, j0, by omega, R.nx am M _ _ _ (S1.mut (d' := .lst (ds.take j.toNat ++ [r.d] ++ ds.drop j.toNat)) h1 ⟨_, upd_same, ?_⟩ rfl) q⟩
  rw [mask_upd b2]
  exact ((b6.take' _).append (RepAll.one (rv.k.rep nb))).append (b6.drop' _)
theorem ds_insert (i : Nat) {x : Str} {pos2 : Pos} (h1 : DE X G e1 ti wi) (he : DE X G e te we) (hx : PE X (.Name x p) (tVar i)) (hbase : attributeBase (.Name x p) "insert" X.env (eval (.Name x p) X.env) = eval (.Name x p) X.env := by rfl)
    (hfew : ((backTo pos (starEach [e1, e] X.env)).all (fun x => !x.1) && (backToKw pos (keywordEach [] X.env)).all (fun x => x.1.isSome) && decide (([e1, e] : List Expr).length + ([] : List Keyword).length + (if ([] : List Keyword).isEmpty then 0 else 1) < 30)) = true := by rfl)
    (hline : (apos.endLine == pos.line) = true := by rfl) (hst : starEach [e1, e] X.env = (false, eval e1 X.env) :: starEach [e] X.env := by rfl) (hst1 : starEach [e] X.env = (false, eval e X.env) :: starEach [] X.env := by rfl) (hpl : (backTo pos (starEach [e] X.env)).any (·.1) = false := by rfl)
    (hs : swapsWith (.Call (.Attribute (.Name x p) "insert" apos) [e1, e] [] pos) none pos2.line X.env = pure false := by rfl) :
    DS X G (.Expr (.Call (.Attribute (.Name x p) "insert" apos) [e1, e] [] pos) pos2) (tDrop (tBM X.K "list" rInsert (tVar i) (tCons ti (tCons te tNil)))) (wInsert i wi we) :=
  ⟨ps_expr (pe_bm PySem.F.plainAttrs_list PySem.F.slot_list_insert PySem.F.type_list_insert mt_insert hx (pa_cons h1.pe (pa_cons he.pe pa_nil hst1) hst) hbase hfew hline hst hpl) hs, sim_insert h1.sim he.sim⟩
theorem de_gInt (n : Int) {x : Str} (hm : ∃ t, X.mg x = some (.int n t)) (gl : Gl X x := by rfl) (hd : (x == ("__debug__" : Str)) = false := by decide) : DE X G (.Name x p) (tC (.int n)) (wC (.int n)) := by
  obtain ⟨t, hm⟩ := hm
  exact ⟨pe_glob gl hm ⟨t, rfl⟩ hd, fun E => sim_c fun H => rfl⟩
theorem de_gStr (z : Str) {x : Str} (hm : ∃ t, X.mg x = some (.str z t)) (gl : Gl X x := by rfl) (hd : (x == ("__debug__" : Str)) = false := by decide) : DE X G (.Name x p) (tC (.str z)) (wC (.str z)) := by
  obtain ⟨t, hm⟩ := hm
  exact ⟨pe_glob gl hm ⟨t, rfl⟩ hd, fun E => sim_c fun H => rfl⟩
end
end L3
namespace L3
open PySem PySem.Spec PyProof.Rows L2
/-- a def whose last parameter is a star: n ahead of it -/
structure FnS (P : Program) (w : World) (K : PySem.W.Frag) (mg : Str → Option Value) (base : Heap) (CX : CXT) (k : Nat) (f : Addr) (n : Nat) (sp : Sp) : Prop where
  go : ∀ (A : Around) (outer : List Env) (s : Shared) (H : Hp) (us rest : List Value) (vs rs : List V) (Q : VK) (E : XK), (Room k A ∧ A.guards = some []) → Env0 P w K mg base A outer s H →
    Vals vs us → Vals rs rest → vs.length = n → rs.length ≤ sizeLine → (∀ p, H p = none → sp (vs ++ [V.ref p]) (upd H p (.tup rs)) Q E) → codeAny (model P w) A (.call (.ref f) ⟨us ++ rest, []⟩) (CR CX outer P w H s Q E) s
section
variable {P : Program} {w : World} {K : PySem.W.Frag} {mg : Str → Option Value} {base : Heap} {CX : CXT} {k n : Nat} {f : Addr} {fd : FuncData} {ps N : List Str} {pv : Str} {sp : Sp} {x qual : Str} {params : Arguments} {body : List Stmt} {scope : Scope} {Gf : Addr → Addr → Gx} {C : Con} {ws : WS}
/-- how a star parameter binds -/
abbrev StarB (fd : FuncData) (ps : List Str) (pv : Str) : Prop := ∀ us rest : List Value, us.length = ps.length → bindArgs fd ⟨us ++ rest, []⟩ = (newTuple rest >>= fun t => pure (ps.zip us ++ [(pv, t)]))
theorem FnS.of (F : FunB K x qual params body scope f fd) (S : FnScope N (ps ++ [pv]) scope) (hCX : StX.CXUp CX) (hb : StarB fd ps pv)
    (hbody : ∀ (cdv : Value) (A : Around) (outer : List Env) (s : Shared) (H : Hp) (vs : List V) (Q : VK) (E : XK), Room k (A.deeper (envOfC qual scope s.heap.objs.size f cdv)) → A.guards = some [] → sp vs H Q E →
      ∃ t, PSs (cxOf CX P w K mg base N qual scope f cdv A outer s H E) body t ∧ t { nx := fun _ H' => Q .non H', rt := Q } (start N vs) H) : FnS P w K mg base CX (k + 1) f ps.length sp := by
  obtain ⟨oc, od, dV, kV, doc, pm, an, cdv, ct, osl, rfl, lk, hcd⟩ := F
  refine ⟨fun A outer s H us rest vs rs Q E ⟨hr, hg⟩ e0 r1 r2 hl hz hq => ?_⟩
  have free : H s.heap.objs.size = none := e0.hok.fresh (Nat.le_refl _)
  have lus : us.length = ps.length := by rw [← r1.length]; exact hl
  refine StX.run_bnd lk hcd S hr e0 (G := fun xs H2 => ∃ p, H p = none ∧ xs = vs ++ [V.ref p] ∧ H2 = upd H p (.tup rs)) (fun A' Ex Q' h => ?_) fun s2 H2 xs ⟨p, hp, ex, eH⟩ hr' => ?_
  · rw [hb us rest lus]
    refine wpAny_bind (wpAny_newTuple (wpAny_pure ?_) (by rw [← r2.length]; exact hz))
    have ok : ObjOk P w (upd H s.heap.objs.size (.tup rs)) (s.heap.push ({ cls := .type "tuple", data := .seq rest.toArray } : Obj)) s.heap.objs.size (.tup rs) := ⟨hz, rest, r2, ⟨_, Heap.get?_push_size _ rfl, rfl, _, rfl⟩⟩
    have un := StX.un_laid (fs := frs outer) (s := s) (o := ({ cls := .type "tuple", data := .seq rest.toArray } : Obj)) (u := .tup rs) free
    have := h _ _ (vs ++ [V.ref s.heap.objs.size]) (us ++ [Value.ref s.heap.objs.size]) (StX.env0_laid e0 ok) un rfl (fun e s' => hCX outer s H _ _ E e s' un (fun b o q => Heap.get?_push_of_some _ q) rfl) (r1.append (.cons rfl .nil))
      (by rw [List.length_append, List.length_append, hl] <;> rfl) ⟨_, free, rfl, rfl⟩
    rwa [List.zip_append lus.symm] at this
  · subst ex eH
    exact hbody cdv A outer s2 _ _ Q E hr' hg (hq p hp)
theorem FnS.mono {j : Nat} (F : FnS P w K mg base CX j f n sp) (h : j ≤ k) : FnS P w K mg base CX k f n sp := ⟨fun A outer s H us rest vs rs Q E ⟨hr, hg⟩ => F.go A outer s H us rest vs rs Q E ⟨hr.mono h, hg⟩⟩
theorem FnS.data (F : FunB K x qual params body scope f fd) (S : FnScope N (ps ++ [pv]) scope) (hb : StarB fd ps pv)
    (hd : ∀ (cdv : Value) (A : Around) (outer : List Env) (s : Shared) (H : Hp) (E : XK) (a c : Addr), Room k (A.deeper (envOfC qual scope s.heap.objs.size f cdv)) → A.guards = some [] →
      ∃ t, DSs (cxOf CX0 P w K mg base N qual scope f cdv A outer s H E).nox (Gf a c) body t ws)
    (hw : ∀ ds n Q, C ds n Q → ws ⟨fun δ => Q .non δ.n, Q, fun _ => False, fun _ => False⟩ ⟨start3 N ds, n⟩) : FnS P w K mg base CX0 (k + 1) f ps.length (lift K Gf C) := by
  refine FnS.of F S StX.cxUp_none hb fun cdv A outer s H vs Q E hr hg ⟨a, c, ads, ds, n, Qd, hk, ha, di, r, hc, q⟩ => ?_
  obtain ⟨t, ht⟩ := hd cdv A outer s H E a c hr hg
  refine ⟨t, ht.ps.nox, ht.sim ⟨H, ads, [], none⟩ (fun _ => 0) ads _ _ H (start_sr hk ha di r) _ (hw ds n Qd hc) _ ⟨fun am M σ δ H' S' z => ?_, fun _ _ _ _ _ _ z => z, fun _ _ _ _ _ _ z => z, fun v d n' H' rv hbase di' z => q v d n' H' hbase di' rv z⟩⟩
  exact q .non .non _ H' S'.base S'.di rfl z
end
section
variable {X : Cx} {CX : CXT} {k n : Nat} {f C : Addr} {ks : List Str} {sp : Sp} {E : XK} {x mn : Str} {p pos apos : Pos} {e o : Expr} {es : List Expr} {ta : TE} {t : TA}
theorem FnS.call {pins : List (Addr × Obj)} {σ : L2.St} {H : Hp} {s : Shared} {Q : VK} {us : List Value} {vs : List V} (F : FnS X.prog X.w X.K X.mg X.base CX k f n sp) (hr : Room k X.A) (hg : X.A.guards = some []) (hx : Passes CX X E)
    (I : Inv X pins σ H s) (r : Vals vs us) (l : n ≤ vs.length) (hz : vs.length ≤ sizeLine) (h : ∀ p, H p = none → sp (vs.take n ++ [V.ref p]) (upd H p (.tup (vs.drop n))) Q E) :
    codeAny (model X.prog X.w) X.A (.call (.ref f) ⟨us, []⟩) (fun q s' => match q with | .ok (.ret u) => EP X pins σ Q u s' | .ok _ => False | .error e => X.xe e s') s := by
  have := F.go X.A X.stack s H (us.take n) (us.drop n) (vs.take n) (vs.drop n) Q E ⟨hr, hg⟩ I.env0 (r.take n) (r.drop n) (by rw [List.length_take]; omega) (by rw [List.length_drop]; omega) h
  rw [List.take_append_drop] at this
  refine codeAny_mono this fun q s' hq => ?_
  cases q with
  | error e => exact hx pins σ H s e s' I hq
  | ok fl => cases fl with
    | ret u => exact I.after hq
    | next => cases hq
    | brk => cases hq
    | cont => cases hq
def tMethS (C : Addr) (mn : Str) (sp : Sp) (n : Nat) (E : XK) (ta : TE) (t : TA) : TE := fun σ H Q => ta σ H fun x H1 => ∃ a dx fs, x = .ref a ∧ H1 a = some (.ins C dx fs) ∧ fs.lookup mn = none ∧
  t σ H1 fun vs H2 => n ≤ vs.length ∧ vs.length < sizeLine ∧ ∀ p, H2 p = none → sp (x :: (vs.take n ++ [V.ref p])) (upd H2 p (.tup (vs.drop n))) Q E
theorem pg_methS {pl : Sem Bool} (he : PE X o ta) (c : Cls X.K C) (hm : Meth X.K C mn f) (F : FnS X.prog X.w X.K X.mg X.base CX k f (n + 1) sp) (hr : Room k X.A) (hg : X.A.guards = some []) (hx : Passes CX X E)
    (ok : ArgsOk X es [] pos []) (hn : es = [] → t = tNil) (ha : PA X es t)
    (ht : eval (.Call (.Attribute o mn apos) es [] pos) X.env = (do
      let ov ← eval o X.env
      standAt apos.atName
      let (f, first) ← holding [ov] (getMethod ov mn pl)
      callWith pos f first (backTo pos (starEach es X.env)) (backToKw pos (keywordEach [] X.env)))) :
    PE X (.Call (.Attribute o mn apos) es [] pos) (tMethS C mn sp n E ta t) := by
  refine ⟨fun pins s σ H Q I h => PySem.W.methodCall_KW (pl := pl) (thn (he.run pins s σ H _ I h) fun u s1 ⟨x, H1, I1, rx, a, dx, fs, ex, ea, l, q⟩ => ?_) ht⟩
  subst ex
  obtain rfl : u = Value.ref a := rx
  refine getmeth_ok I1 ea c hm l (callw (first := [.ref a]) (tk := tNil) (B := fun vs zs H2 => n ≤ vs.length ∧ vs.length < sizeLine ∧ ∀ p, H2 p = none → sp (.ref a :: (vs.take n ++ [V.ref p])) (upd H2 p (.tup (vs.drop n))) Q E) ok hn hm.kp ha pk_nil I1 q fun us ws vs zs s2 H2 I2 r rz ⟨l1, l2, q2⟩ => ?_)
  exact wp_of_code (α := Unit) (F.call (vs := .ref a :: vs) (us := .ref a :: us) hr hg hx I2 (.cons rfl r) (by rw [List.length_cons]; omega) (by rw [List.length_cons]; omega) q2)
def tCallS (sp : Sp) (n : Nat) (E : XK) (t : TA) : TE := fun σ H Q => t σ H fun vs H1 => n ≤ vs.length ∧ vs.length < sizeLine ∧ ∀ p, H1 p = none → sp (vs.take n ++ [V.ref p]) (upd H1 p (.tup (vs.drop n))) Q E
theorem pg_callS (F : FnS X.prog X.w X.K X.mg X.base CX k f n sp) (hr : Room k X.A) (hg : X.A.guards = some []) (gl : Gl X x) (hm : X.mg x = some (.ref f)) (hk : PySem.W.keepIn X.K (.ref f) = true) (hx : Passes CX X E)
    (ok : ArgsOk X es [] pos []) (hn : es = [] → t = tNil) (ha : PA X es t) (hdb : (x == ("__debug__" : Str)) = false := by decide) : PE X (.Call (.Name x p) es [] pos) (tCallS sp n E t) :=
  ⟨fun pins s σ H Q I h => wpAny_Call_Name_kw (ld_glob I gl hm (callw (first := []) (tk := tNil) (B := fun vs zs H2 => n ≤ vs.length ∧ vs.length < sizeLine ∧ ∀ p, H2 p = none → sp (vs.take n ++ [V.ref p]) (upd H2 p (.tup (vs.drop n))) Q E) ok hn hk ha pk_nil I h fun us ws vs zs s2 H2 I2 r rz ⟨l1, l2, q2⟩ =>
    wp_of_code (α := Unit) (F.call hr hg hx I2 r l1 (Nat.le_of_lt l2) q2)) hdb)⟩
end
@[simp] def wMethS (t : Nat) (C : Con) (n : Nat) (wo : WE) (w : WA) : WE := fun δ Q => wo δ fun r δ0 => ¬ r.bor ∧ (∃ fs, r.d = .ins t fs) ∧ w δ0 fun rs δ1 => keeps rs ∧ n ≤ rs.length ∧ rs.length < 16777216 ∧
  C (r.d :: ((rs.map RD.d).take n ++ [.tup ((rs.map RD.d).drop n)])) δ1.n fun d n' => Q (.sh d) ⟨δ1.sl, n'⟩
@[simp] def wCallS (C : Con) (n : Nat) (w : WA) : WE := fun δ Q => w δ fun rs δ1 => keeps rs ∧ n ≤ rs.length ∧ rs.length < 16777216 ∧
  C ((rs.map RD.d).take n ++ [.tup ((rs.map RD.d).drop n)]) δ1.n fun d n' => Q (.sh d) ⟨δ1.sl, n'⟩
section
variable {X : Cx} {G : Gx} {K : PySem.W.Frag} {E : Ent} {Gf : Addr → Addr → Gx} {a c : Addr} {C : Con} {to : TE} {wo : WE} {ts : TA} {wa : WA} {n t : Nat}
theorem star_rep {G : Gx} {M : List Addr} {H : Hp} {vs : List V} {ds : List D} {p : Addr} (al : ∀ x ∈ M, H x ≠ none) (hp : H p = none) (r : RepAll K G (mask M H) vs ds) : RepAll K G (mask M (upd H p (.tup (vs.drop n)))) (vs.take n ++ [V.ref p]) (ds.take n ++ [.tup (ds.drop n)]) := by
  have sm := same_new (o := .tup (vs.drop n)) hp
  have pM : p ∉ M := fun z => al p z hp
  have r' := r.mono (mask_mono (M := M) sm)
  exact (r'.take' n).append (RepAll.one (d := .tup (ds.drop n)) ⟨p, _, rfl, SqT.of (by rw [mask_out pM, upd_same]), r'.drop' n⟩)
theorem sim_methS {Ex : XK} {mn : Str} (hmn : mn ∉ (Gf a c).fld t) (ho : SimE K (Gf a c) E to wo) (h : SimA K (Gf a c) E ts wa) :
    SimE K (Gf a c) E (tMethS ((Gf a c).cls t) mn (lift K Gf C) n Ex to ts) (wMethS t C n wo wa) := fun am M σ δ H S Qd q Q k =>
  ho am M σ δ H S _ q _ fun x r δ0 H0 S0 e0 o0 r0 ⟨nb, ⟨fs, ef⟩, q⟩ => by
    have rr := r0.k.rep nb
    have ri := rr
    rw [ef] at ri
    obtain ⟨p, dx, xs, rfl, hp, hl, rx⟩ := ri
    refine ⟨p, dx, _, rfl, mask_le _ _ hp, zip_none xs hmn, ?_⟩
    refine h am M σ δ0 H0 S0 _ q _ fun vs rs δ1 H1 S1 e1 o1 r1 ⟨k1, l1, l2, hc⟩ => ?_
    refine ⟨by rw [r1.length]; exact l1, by rw [r1.length, line16]; exact l2, fun p1 hp1 => ?_⟩
    have sm := same_new (o := .tup (vs.drop n)) hp1
    have rep := star_rep (n := n) S1.al hp1 (r1.rep k1)
    have r0' : Rep K (Gf a c) (mask M (upd H1 p1 (.tup (vs.drop n)))) (.ref p) r.d := Rep.mono (mask_mono sm) _ (Rep.mono (S0.mask e1) _ rr)
    exact lift_use (S1.grow sm) (RepAll.cons r0' rep) hc fun v r δ' H' S' e' o' rv hq =>
      k v r δ' H' S' (((e0.trans o0 e1).trans (fun i z => o0 i (o1 i z)) (Ext.of (δ := δ1) sm)).trans (fun i z => o0 i (o1 i z)) e') (fun i z => o0 i (o1 i (o' i z))) rv hq
theorem sim_callS {Ex : XK} (h : SimA K (Gf a c) E ts wa) : SimE K (Gf a c) E (tCallS (lift K Gf C) n Ex ts) (wCallS C n wa) := fun am M σ δ H S Qd q Q k =>
  h am M σ δ H S _ q _ fun vs rs δ1 H1 S1 e1 o1 r1 ⟨k1, l1, l2, hc⟩ => by
    refine ⟨by rw [r1.length]; exact l1, by rw [r1.length, line16]; exact l2, fun p1 hp1 => ?_⟩
    have sm := same_new (o := .tup (vs.drop n)) hp1
    exact lift_use (S1.grow sm) (star_rep (n := n) S1.al hp1 (r1.rep k1)) hc fun v r δ' H' S' e' o' rv hq =>
      k v r δ' H' S' ((e1.trans o1 (Ext.of (δ := δ1) sm)).trans o1 e') (fun i z => o1 i (o' i z)) rv hq
variable {k : Nat} {f : Addr} {x mn : Str} {p pos apos : Pos} {o : Expr} {es : List Expr}
theorem de_methS {pl : Sem Bool} (K : PySem.W.Frag) (t : Nat) (c' : Cls K ((Gf a c).cls t)) (hm : Meth K ((Gf a c).cls t) mn f) (F : FnS X.prog X.w K X.mg X.base CX0 k f (n + 1) (lift K Gf C)) (hr : Room k X.A) (hg : X.A.guards = some [])
    (hmn : mn ∉ (Gf a c).fld t) (he : DE X (Gf a c) o to wo) (ha : DA X (Gf a c) es ts wa) (ok : ArgsOk X es [] pos [] := by exact ⟨by first | exact .inl rfl | exact .inr ⟨_, _, rfl, rfl⟩, rfl, rfl, rfl⟩) (hn : es = [] → ts = tNil := by first | exact fun _ => rfl | (intro h; cases h))
    (ht : eval (.Call (.Attribute o mn apos) es [] pos) X.env = (do
      let ov ← eval o X.env
      standAt apos.atName
      let (f, first) ← holding [ov] (getMethod ov mn pl)
      callWith pos f first (backTo pos (starEach es X.env)) (backToKw pos (keywordEach [] X.env))) := by rfl) (hK : X.K = K := by rfl) :
    DE X (Gf a c) (.Call (.Attribute o mn apos) es [] pos) (tMethS ((Gf a c).cls t) mn (lift K Gf C) n E0 to ts) (wMethS t C n wo wa) := by
  subst hK
  exact ⟨pg_methS he.pe c' hm F hr hg pass0 ok hn ha.pa ht, fun E => sim_methS hmn (he.sim E) (ha.sim E)⟩
theorem de_callS (K : PySem.W.Frag) (F : FnS X.prog X.w K X.mg X.base CX0 k f n (lift K Gf C)) (hr : Room k X.A) (hg : X.A.guards = some []) (hm : X.mg x = some (.ref f)) (hk : PySem.W.keepIn K (.ref f) = true)
    (ha : DA X (Gf a c) es ts wa) (gl : Gl X x := by rfl) (ok : ArgsOk X es [] pos [] := by exact ⟨by first | exact .inl rfl | exact .inr ⟨_, _, rfl, rfl⟩, rfl, rfl, rfl⟩) (hn : es = [] → ts = tNil := by first | exact fun _ => rfl | (intro h; cases h)) (hdb : (x == ("__debug__" : Str)) = false := by decide) (hK : X.K = K := by rfl) :
    DE X (Gf a c) (.Call (.Name x p) es [] pos) (tCallS (lift K Gf C) n E0 ts) (wCallS C n wa) := by
  subst hK
  exact ⟨pg_callS F hr hg gl hm hk pass0 ok hn ha.pa hdb, fun E => sim_callS (ha.sim E)⟩
end
end L3
namespace L3
open PySem PySem.Spec PyProof.Rows L2
section
variable {X : Cx} {G : Gx} {K : PySem.W.Frag} {e1 e2 e3 : Expr} {t1 t2 t3 : TE} {w1 w2 w3 : WE} {x y' z : Str} {px py' pz pt pt2 pos : Pos}
theorem sim_parC3 {ta tb tc : TE} {wa wb wc : WE} {i j m : Nat} {oi oj om : Bool} (ha : ∀ E, SimE K G E ta wa) (hb : ∀ E, SimE K G E tb wb) (hc : ∀ E, SimE K G E tc wc) : SimS K G (tAsg (tTup (tCons ta (tCons tb (tCons tc tNil)))) (gTup K 3 (gCons (gName i) (gCons (gName j) (gCons (gName m) gNil))))) (wPar3 i oi j oj m om wa wb wc) := fun E am M σ δ H S D3 q De R => by
  refine ha E am M σ δ H S _ q _ fun x rx δ1 H1 S1 e1 o1 v1 q => ?_
  by_cases k1 : okp oi rx
  · obtain ⟨M1, i1, T1, p1, n1⟩ := v1.pv S1 k1
    obtain ⟨l1, G1, b1⟩ := p1.ghost T1
    refine hb (E.add l1) am M1 σ δ1 H1 G1 _ q _ fun y ry δ2 H2 S2 e2 o2 v2 q => ?_
    by_cases k2 : okp oj ry
    · obtain ⟨M2, i2, T2, p2, n2⟩ := v2.pv S2 k2
      obtain ⟨l2, G2, b2⟩ := p2.ghost T2
      refine hc ((E.add l1).add l2) am M2 σ δ2 H2 G2 _ q _ fun z rz δ3 H3 S3 e3 o3 v3 ⟨_, _, k3, q⟩ => ?_
      obtain ⟨M3, i3, T3, p3, n3⟩ := v3.pv S3 k3
      have q2 := (b2 M3 δ3 H3 T3 e3 o3 i3).of_add
      have q1 := b1 M3 δ3 H3 T3.drop (e2.trans o2 e3) (fun i z => o2 i (o3 i z)) fun a z => i3 a (i2 a z)
      obtain ⟨am1, U1, f1⟩ := PV.put (i := i) T3.drop.drop q1 (okp_ni k1)
      have r2 := f1 y oj ry.d (fun z1 z2 e => by
        subst z1 z2
        obtain ⟨p, e', hp⟩ := p1.ref
        exact n2 rfl p (by rw [e, e']) hp) q2
      have r3 := f1 z om rz.d (fun z1 z2 e => by
        subst z1 z2
        obtain ⟨p, e', hp⟩ := p1.ref
        exact n3 rfl p (by rw [e, e']) (i2 p hp)) p3.of_add.of_add
      obtain ⟨am2, U2, f2⟩ := PV.put (i := j) U1 r2 (okp_ni k2)
      have s3 := f2 z om rz.d (fun z1 z2 e => by
        subst z1 z2
        obtain ⟨p, e', hp⟩ := p2.ref
        exact n3 rfl p (by rw [e, e']) hp) r3
      obtain ⟨am3, U3, _⟩ := PV.put (i := m) U2 s3 (okp_ni k3)
      exact ⟨(by decide : 3 ≤ sizeLine), fun p hp => ⟨p, [x, y, z], rfl, .inl (.inl upd_same), rfl, x, [y, z], rfl, y, [z], rfl, z, [], rfl, rfl, R.nx _ _ _ _ _ (U3.grow (same_new hp)) q⟩⟩
    · refine hc _ am M1 σ δ2 H2 S2 _ q _ fun z rz δ3 H3 S3 e3 o3 v3 ⟨_, k, _⟩ => (k2 k).elim
  · refine hb E am M σ δ1 H1 S1 _ q _ fun y ry δ2 H2 S2 e2 o2 v2 q => ?_
    refine hc _ am M σ δ2 H2 S2 _ q _ fun z rz δ3 H3 S3 e3 o3 v3 ⟨k, _⟩ => (k1 k).elim
theorem ds_parC3 (K : PySem.W.Frag) (i' : Nat) (oi : Bool) (j : Nat) (oj : Bool) (l : Nat) (ol : Bool) {kt k2} (hc : X.calm = true) (hN : X.N.Nodup) (h1 : DE X G e1 t1 w1) (h2 : DE X G e2 t2 w2) (h3 : DE X G e3 t3 w3)
    (hi : X.N[i']? = some x := by rfl) (hj : X.N[j]? = some y' := by rfl) (hl : X.N[l]? = some z := by rfl)
    (hx : Loc X.env.scope x := by first | exact Or.inl rfl | exact Or.inr rfl) (hy : Loc X.env.scope y' := by first | exact Or.inl rfl | exact Or.inr rfl) (hz : Loc X.env.scope z := by first | exact Or.inl rfl | exact Or.inr rfl)
    (hfx : X.fn x = true ∨ X.env.scope.names.lookup x = some .local := by first | exact .inl rfl | exact .inr rfl) (hfy : X.fn y' = true ∨ X.env.scope.names.lookup y' = some .local := by first | exact .inl rfl | exact .inr rfl) (hfz : X.fn z = true ∨ X.env.scope.names.lookup z = some .local := by first | exact .inl rfl | exact .inr rfl)
    (hst : starEach [e1, e2, e3] X.env = (false, eval e1 X.env) :: starEach [e2, e3] X.env := by rfl) (hst2 : starEach [e2, e3] X.env = (false, eval e2 X.env) :: starEach [e3] X.env := by rfl) (hst3 : starEach [e3] X.env = (false, eval e3 X.env) :: starEach [] X.env := by rfl)
    (hw : swappedStores [.Tuple [.Name x px, .Name y' py', .Name z pz] kt pt] (.Tuple [e1, e2, e3] k2 pt2) X.env = pure none := by rfl)
    (hs : swapsWithSole [.Tuple [.Name x px, .Name y' py', .Name z pz] kt pt] (.Tuple [e1, e2, e3] k2 pt2) pos.line X.env = pure false := by rfl)
    (h4 : (assignEach [.Tuple [.Name x px, .Name y' py', .Name z pz] kt pt] X.env).map (·.2) = [assign (.Tuple [.Name x px, .Name y' py', .Name z pz] kt pt) X.env] := by rfl)
    (hs1 : (assignEach [.Name x px, .Name y' py', .Name z pz] X.env).map (·.2) = assign (.Name x px) X.env :: (assignEach [.Name y' py', .Name z pz] X.env).map (·.2) := by rfl) (hs2 : (assignEach [.Name y' py', .Name z pz] X.env).map (·.2) = assign (.Name y' py') X.env :: (assignEach [.Name z pz] X.env).map (·.2) := by rfl)
    (hs3 : (assignEach [.Name z pz] X.env).map (·.2) = assign (.Name z pz) X.env :: (assignEach [] X.env).map (·.2) := by rfl)
    (hn : (assignEach [.Name x px, .Name y' py', .Name z pz] X.env).length = 3 := by rfl) (hst' : (assignEach [.Name x px, .Name y' py', .Name z pz] X.env).findIdx? (·.1) = none := by rfl) (hK : X.K = K := by rfl) :
    DS X G (.Assign [.Tuple [.Name x px, .Name y' py', .Name z pz] kt pt] (.Tuple [e1, e2, e3] k2 pt2) pos) (tAsg (tTup (tCons t1 (tCons t2 (tCons t3 tNil)))) (gTup K 3 (gCons (gName i') (gCons (gName j) (gCons (gName l) gNil))))) (wPar3 i' oi j oj l ol w1 w2 w3) := by
  subst hK
  exact ⟨ps_asg (pe_tup (pa_cons h1.pe (pa_cons h2.pe (pa_cons h3.pe pa_nil hst3) hst2) hst)) (pg_tup hc (pgs_cons (pg_name hN hi hx hfx) (pgs_cons (pg_name hN hj hy hfy) (pgs_cons (pg_name hN hl hz hfz) pgs_nil hs3) hs2) hs1) hn hst') hs hw h4, sim_parC3 h1.sim h2.sim h3.sim⟩
end
end L3
namespace L3
open PySem PySem.Spec PyProof.Rows L2
@[simp] def wCallF (C : Con) (dd : List D) (w : WA) : WE := fun δ Q => w δ fun rs δ1 => C (rs.map RD.d ++ dd) δ1.n fun d n' => d.flat = true ∧ Q (.sh d) ⟨δ1.sl, n'⟩
section
variable {X : Cx} {G : Gx} {K : PySem.W.Frag} {E : Ent} {Gf : Addr → Addr → Gx} {a c : Addr} {C : Con} {dd : List D} {dvs : List V} {ta tk : TA} {wa wk : WA}
theorem RKs.out {G : Gx} {am : Nat → Addr} {M : List Addr} {σ : L2.St} {δ : St3} {H : Hp} (S : SR K G E am M σ δ H) : ∀ {vs : List V} {rs : List RD}, RKs K G am M δ H vs rs → RepAll K G (mask G.dk H) vs (rs.map RD.d)
  | _, _, .nil => rfl
  | _, _, .cons (r := r) h t => by
    refine ⟨_, _, rfl, ?_, t.out S⟩
    have sub : ∀ x ∈ G.dk, x ∈ M := fun x hx => S.ads x (S.dks x hx)
    cases r with
    | sh d => exact Rep.mono (mask_sub sub) d h
    | fr d => exact Rep.mono (mask_sub sub) d h
    | bo d =>
      obtain ⟨i, hi, rfl⟩ := h
      obtain ⟨_, _, z, _, o⟩ := S.ow i d hi
      exact o.rep (mask_sub sub) fun u e => by rw [mask_out fun q => z (S.dks _ q)]; exact e
theorem flat_rep {G : Gx} {H H' : Hp} {v : V} {d : D} (f : d.flat = true) (h : Rep K G H v d) : Rep K G H' v d := by
  cases d <;> first | exact h | cases f
theorem sim_callF {Ex : XK} (h : SimA K (Gf a c) E ta wa) (hd : Dfl K (Gf a c) dvs dd) : SimE K (Gf a c) E (tCall (lift K Gf C) dvs Ex ta) (wCallF C dd wa) := fun am M σ δ H S Qd q Q k =>
  h am M σ δ H S _ q _ fun vs rs δ1 H1 S1 e1 o1 r1 hc => by
    refine ⟨a, c, (Gf a c).dk, _, δ1.n, _, fun x hx => hx, fun x hx => S1.al x (S1.ads x (S1.dks x hx)), S1.di, (r1.out S1).append (hd _), hc, fun v d n' H' hb di rv ⟨f, q⟩ => ?_⟩
    exact k v (.sh d) ⟨δ1.sl, n'⟩ H' (S1.after hb di) (e1.trans o1 fun b o h hk _ => hb b o h hk) o1 (flat_rep f rv) q
variable {k : Nat} {f : Addr} {fd : FuncData} {ps ks : List Str} {ds : List Value} {x : Str} {p pos : Pos} {e : Expr} {es : List Expr} {kws : List Keyword}
theorem de_callXF (K : PySem.W.Frag) (F : FnG X.prog X.w K X.mg X.base CX0 k f fd ps (lift K Gf C)) (hr : Room k X.A) (hg : X.A.guards = some []) (hm : X.mg x = some (.ref f)) (hk : PySem.W.keepIn K (.ref f) = true) (hb : Binds K fd ps ds) (hv : Vals dvs ds) (hd : Dfl K (Gf a c) dvs dd)
    (ha : DA X (Gf a c) (e :: es) ta wa) (gl : Gl X x := by rfl) (hdb : (x == ("__debug__" : Str)) = false := by decide) (he : starEach (e :: es) X.env = (false, eval e X.env) :: starEach es X.env := by rfl) (hpl : (backTo pos (starEach es X.env)).any (·.1) = false := by rfl) (hK : X.K = K := by rfl) :
    DE X (Gf a c) (.Call (.Name x p) (e :: es) [] pos) (tCall (lift K Gf C) dvs E0 ta) (wCallF C dd wa) := by
  subst hK
  exact ⟨pg_call F hr hg gl hm hk hb hv pass0 ha.pa hdb he hpl, fun E => sim_callF (ha.sim E) hd⟩
end
end L3
namespace L3
open PySem PySem.Spec PyProof.Rows L2
section
variable {X : Cx}
/-- tuple(xs) of a list: its object is known -/
def rTupP (K : PySem.W.Frag) : List V → Hp → VK → Prop := fun vs H Q => ∃ (p : Addr) (ys : List V), vs = [V.ref p] ∧ SqL K H p ys ∧ ∀ (l : Addr) (o : Obj), H l = none → o.cls = .type "tuple" → o.dict = none → Q (.ref l) (upd H l (.frz o (.tup ys)))
theorem call_tupP (K : PySem.W.Frag) (hK : X.K = K := by rfl) : CallR X (.type "tuple") (rTupP K) := by
  subst hK
  intro pins s σ H vs us Q I r h
  obtain ⟨p, ys, rfl, hq, q⟩ := h
  rw [Vals.ref1 r]
  obtain ⟨its, r', pl, hz⟩ := I.list hq
  have hlen := r'.length
  refine PySem.call_tuple_list pl.isList (fun h' kp => ?_) (by simp only [List.size_toArray] <;> omega)
  have I1 : Inv X pins σ H { s with heap := h' } := I.kept (t' := s.toks) kp
  have gt' := Heap.get?_push_size h' (o := ({ cls := .type "tuple", data := .seq its.toArray } : Obj)) rfl
  have ok : ObjOk X.prog X.w (upd H h'.objs.size (.frz ({ cls := .type "tuple", data := .seq its.toArray } : Obj) (.tup ys))) (h'.push ({ cls := .type "tuple", data := .seq its.toArray } : Obj)) h'.objs.size (.frz ({ cls := .type "tuple", data := .seq its.toArray } : Obj) (.tup ys)) :=
    ⟨gt', hz, its, r', IsTup.new _ _⟩
  exact ⟨.ref h'.objs.size, _, I1.laid (t' := s.toks) (fun b o e => Heap.get?_push_of_some _ e) (Nat.le_refl _) ok, rfl, q _ _ (I1.hok.fresh (Nat.le_refl _)) rfl rfl⟩
/-- t.index(x) of a tuple with a known object -/
def tBMP (r : V → List V → Hp → VK → Prop) (to : TE) (t : TA) : TE := fun σ H Q => to σ H fun x H1 => (∃ a o xs, x = .ref a ∧ H1 a = some (.frz o (.tup xs)) ∧ o.cls = .type "tuple" ∧ o.dict = none) ∧ t σ H1 fun xs H2 => r x xs H2 Q
variable {o e : Expr} {es : List Expr} {to : TE} {t : TA} {name : Str} {apos cpos : Pos} {id : String} {r : V → List V → Hp → VK → Prop}
theorem pe_bmP (slot : Slot "tuple" name id) (hty : typeOf (.builtin id) = pure (.type "method_descriptor")) (hm : MtR X id r) (ho : PE X o to) (ha : PA X (e :: es) t)
    (hbase : attributeBase o name X.env (eval o X.env) = eval o X.env := by rfl)
    (hfew : ((backTo cpos (starEach (e :: es) X.env)).all (fun x => !x.1) && (backToKw cpos (keywordEach [] X.env)).all (fun x => x.1.isSome)
      && decide ((e :: es).length + ([] : List Keyword).length + (if ([] : List Keyword).isEmpty then 0 else 1) < 30)) = true := by rfl)
    (hline : (apos.endLine == cpos.line) = true := by rfl) (hs : starEach (e :: es) X.env = (false, eval e X.env) :: starEach es X.env := by rfl) (hplain : (backTo cpos (starEach es X.env)).any (·.1) = false := by rfl) :
    PE X (.Call (.Attribute o name apos) (e :: es) [] cpos) (tBMP r to t) := by
  refine ⟨fun pins s σ H Q I h => ?_⟩
  refine wpAny_Call_method_late hbase hfew hline rfl (thn (ho.run pins s σ H _ I h) fun v s1 ⟨x, H1, I1, r1, ⟨a, ob, xs, ex, ha1, hc, hd⟩, q1⟩ => ?_)
  subst ex
  obtain rfl : v = Value.ref a := r1
  have g := (I1.hok a _ ha1).1
  refine ⟨"tuple", id, PySem.F.plainAttrs_tuple, slot, hty, ⟨ob, g, hc⟩, fun b e => by cases e; exact ⟨ob, g, hd⟩, ?_⟩
  have hA := ha.run cpos pins s1 σ H1 _ I1 q1
  rw [hs] at hA ⊢
  refine Calls.callWith_builtin (by show (false || (backTo cpos (starEach es X.env)).any (·.1)) = false; rw [hplain] <;> rfl) (Calls.evalArgs_plain ?_)
  exact thn hA fun us s2 ⟨vs, H2, I2, r2, q2⟩ => hm pins s2 σ H2 (.ref a) vs (.ref a) us Q I2 rfl r2 q2
end
section
variable {X : Cx} {G : Gx} {K : PySem.W.Frag} {E : Ent} {te to : TE} {we wo : WE} {e o : Expr} {pos apos : Pos}
def fTupP : FC
  | [.lst ds], Q => Q (.sh (.ptup ds))
  | _, _ => False
@[simp] theorem fTupP_0 (ds : List D) (Q : RD → Prop) : fTupP [.lst ds] Q = Q (.sh (.ptup ds)) := rfl
theorem calls_tupP : CallS K G (rTupP K) fTupP := fun M H vs ds al b Qd h Q k => by
  match ds, h with
  | [.lst xs], h =>
    obtain ⟨v, rfl, b1⟩ := b.one
    obtain ⟨p, ys, rfl, hy, r⟩ := b1.lst
    refine ⟨p, ys, rfl, SqL.of hy, fun l o hl hc hd => k _ _ _ (same_new hl) ?_ h⟩
    exact ⟨l, ys, o, rfl, by rw [mask_out fun z => al l z hl, upd_same], hc, hd, r.mono (mask_mono (same_new hl))⟩
def wkD : D → D
  | .ptup ds => .tup ds
  | d => d
@[simp] theorem wkD_p (ds : List D) : wkD (.ptup ds) = .tup ds := rfl
def wkR : RD → RD
  | .sh d => .sh (wkD d)
  | r => r
@[simp] theorem wkR_s (d : D) : wkR (.sh d) = .sh (wkD d) := rfl
@[simp] def wWk (w : WE) : WE := fun δ Q => w δ fun r δ1 => Q (wkR r) δ1
theorem wk_rep {H : Hp} {v : V} : ∀ {d : D}, Rep K G H v d → Rep K G H v (wkD d) := fun {d} h => by
  cases d <;> first | exact h | skip
  obtain ⟨a, xs, o, h1, h2, _, _, h3⟩ := h
  exact ⟨a, xs, h1, .inl (.inr ⟨o, h2⟩), h3⟩
theorem sim_wk (h : SimE K G E te we) : SimE K G E te (wWk we) := fun am M σ δ H S Qd q Q k =>
  h am M σ δ H S _ q _ fun v r δ1 H1 S1 e1 o1 rv q => by
    refine k v (wkR r) δ1 H1 S1 e1 o1 ?_ q
    cases r with
    | sh d => exact wk_rep rv
    | fr d => exact rv
    | bo d => exact rv
theorem de_wk (h : DE X G e te we) : DE X G e te (wWk we) := ⟨h.pe, fun E => sim_wk (h.sim E)⟩
@[simp] def wIdxP (a b : WE) : WE := fun δ Q => a δ fun x δ1 => ¬ x.bor ∧ ∃ xs : List Str, x.d = .ptup (xs.map D.str) ∧ b δ1 fun y δ2 => ∃ z, y.d = .str z ∧ z ∈ xs ∧ Q (.sh (.int (xs.idxOf z : Nat))) δ2
theorem before_idxS : ∀ (ns : List Str) (i : Str) (m : Nat), m < ns.idxOf i → ns[m]? ≠ some i
  | [], _, _, h => by simp
  | a :: ns, i, m, h => by
    rw [List.idxOf_cons] at h
    cases q : (a == i) with
    | true => rw [q] at h; simp at h
    | false =>
      rw [q] at h
      cases m with
      | zero =>
        rw [List.getElem?_cons_zero]
        intro e
        rw [Option.some.inj e] at q
        simp at q
      | succ m =>
        rw [List.getElem?_cons_succ]
        exact before_idxS ns i m (by simpa using h)
abbrev rIdxP (K : PySem.W.Frag) : V → List V → Hp → VK → Prop := fun x xs H Q => ∃ p, ∃ ys : List Str, ∃ z j, x = .ref p ∧ xs = [.str z] ∧ SqT K H p (ys.map V.str) ∧ ys[j]? = some z ∧ (∀ m, m < j → ys[m]? ≠ some z) ∧ Q (.int (j : Nat)) H
theorem sim_idxP (ha : SimE K G E to wo) (hb : SimE K G E te we) : SimE K G E (tBMP (rIdxP K) to (tCons te tNil)) (wIdxP wo we) := fun am M σ δ H S Qd h Q k => by
  refine ha am M σ δ H S _ h _ fun x rx δ1 H1 S1 e1 o1 v1 ⟨nb, xs, er, h⟩ => ?_
  have b0 := v1.k.rep nb
  rw [er] at b0
  obtain ⟨a, ys, ob, rfl, ha1, hc, hd, ry⟩ := b0
  rw [ry.strs] at ha1
  refine ⟨⟨a, ob, _, rfl, mask_le _ _ ha1, hc, hd⟩, ?_⟩
  refine hb am M σ δ1 H1 S1 _ h _ fun y ry δ2 H2 S2 e2 o2 v2 ⟨z, ez, hz, q⟩ => ?_
  have by' := v2.k.rb S2
  rw [ez] at by'
  have ha2 := S1.mask e2 _ _ ha1
  have hlt : xs.idxOf z < xs.length := List.idxOf_lt_length_of_mem hz
  refine ⟨a, xs, z, xs.idxOf z, rfl, by rw [by'.str], .inl (.inr ⟨ob, mask_le _ _ ha2⟩), ?_, before_idxS xs z, ?_⟩
  · rw [List.getElem?_eq_getElem hlt, List.getElem_idxOf]
  · exact k _ (.sh (.int (xs.idxOf z : Nat))) δ2 H2 S2 (e1.trans o1 e2) (fun i z => o1 i (o2 i z)) rfl q
theorem de_idxP (K : PySem.W.Frag) (ho : DE X G o to wo) (he : DE X G e te we) (hbase : attributeBase o "index" X.env (eval o X.env) = eval o X.env := by rfl)
    (hfew : ((backTo pos (starEach [e] X.env)).all (fun x => !x.1) && (backToKw pos (keywordEach [] X.env)).all (fun x => x.1.isSome) && decide (([e] : List Expr).length + ([] : List Keyword).length + (if ([] : List Keyword).isEmpty then 0 else 1) < 30)) = true := by rfl)
    (hline : (apos.endLine == pos.line) = true := by rfl) (hst : starEach [e] X.env = (false, eval e X.env) :: starEach [] X.env := by rfl) (hK : X.K = K := by rfl) :
    DE X G (.Call (.Attribute o "index" apos) [e] [] pos) (tBMP (rIdxP K) to (tCons te tNil)) (wIdxP wo we) := by
  subst hK
  exact ⟨pe_bmP PySem.F.slot_tuple_index PySem.F.type_tuple_index mt_tup_index ho.pe (pa_cons he.pe pa_nil hst) hbase hfew hline hst rfl, fun E => sim_idxP (ho.sim E) (he.sim E)⟩
end
end L3
namespace Pg
open PySem PySem.Spec PyProof.Rows L2 L3
abbrev C_l_draw : Con := CdrawA
abbrev C_is_modulo_right : Con := Cno
abbrev C_is_never_right : Con := Cno
abbrev C_is_digits_right : Con := Cno
def rowD (r : List Int) : D := .tup (r.map D.int)
def rowE (p : List Int × Int) : D := .tup [rowD p.1, .int p.2]
def rstE (p : List Int × Int × Int) : D := .tup [rowD p.1, .int p.2.1, .int p.2.2]
def sysD (nm : List D) (L : List (List Int × Int)) (M : List (List Int × Int × Int)) : D := .ins 0 [.ptup nm, .tup (L.map rowE), .tup (M.map rstE)]
def C_System_uinitu : Con := fun ds n Q => ∃ a b c : D, ds = [a, b, c] ∧ Q (.ins 0 [a, b, c]) n
def dotL (r o : List Int) : Int := (List.zipWith (fun x y => x * y) r o).sum
def C_product_sum : Con := fun ds n Q => ∃ (r o : List Int), ds = [rowD r, rowD o] ∧ r.length ≤ 100 ∧ (∀ x ∈ r, Sz 400 x) ∧ (∀ x ∈ o, Sz 400 x) ∧ Q (.int (dotL r o)) n
/-- a form: its factor, its fronts, its moves -/
structure Fm where
  f : Int
  fr : List Int
  mv : List (List Int)
def Fm.d (F : Fm) : D := .tup [.int F.f, .tup (F.fr.map D.int), .tup (F.mv.map rowD)]
def gt (r : List Int) (j : Nat) : Int := (r[j]?).getD 0
def ent (mv : List (List Int)) (k j : Nat) : Int := gt ((mv[k]?).getD []) j
def isMv (N : Nat) (L : List (List Int)) (M : List (List Int × Int)) (m : List Int) : Prop := m.length = N ∧ (∀ r ∈ L, dotL r m = 0) ∧ ∀ p ∈ M, p.2 ∣ dotL p.1 m
def isFr (f : Int) (mv : List (List Int)) (j k : Nat) : Prop := k < mv.length ∧ ent mv k j = f ∧ ∀ i, i < k → ent mv i j = 0
structure FmOk (N : Nat) (L : List (List Int)) (M : List (List Int × Int)) (b : Nat) (F : Fm) : Prop where
  f1 : 1 ≤ F.f
  fb : Sz b F.f
  frl : F.fr.length = N
  mv1 : 1 ≤ F.mv.length
  mv12 : F.mv.length ≤ 12
  mv : ∀ m ∈ F.mv, isMv N L M m
  sz : ∀ m ∈ F.mv, ∀ x ∈ m, Sz b x
  frt : ∀ (j : Nat) (t : Int), F.fr[j]? = some t → ∃ k : Nat, t = k ∧ isFr F.f F.mv j k
abbrev rowsOf (L : List (List Int × Int)) : List (List Int) := L.map Prod.fst
abbrev restsOf (M : List (List Int × Int × Int)) : List (List Int × Int) := M.map fun p => (p.1, p.2.2)
structure SyS (L : List (List Int × Int)) (M : List (List Int × Int × Int)) : Prop where
  ll : L.length ≤ 1000
  ml : M.length ≤ 1000
  l : ∀ p ∈ L, p.1.length ≤ 100 ∧ ∀ x ∈ p.1, Sz 400 x
  m : ∀ p ∈ M, p.1.length ≤ 100 ∧ (∀ x ∈ p.1, Sz 400 x) ∧ 0 < p.2.2
def C_is_integer : Con := fun ds n Q => ∃ i : Int, ds = [.int i] ∧ Q (.bl true) n
def C_is_move : Con := fun ds n Q => ∃ (nm : List D) (L : List (List Int × Int)) (M : List (List Int × Int × Int)) (m : List Int), ds = [sysD nm L M, rowD m] ∧ SyS L M ∧ m.length ≤ 1000 ∧ isMv nm.length (rowsOf L) (restsOf M) m ∧ (∀ x ∈ m, Sz 400 x) ∧ Q (.bl true) n
def C_is_front : Con := fun ds n Q => ∃ (f : Int) (mv : List (List Int)) (j k : Nat), ds = [.int f, .tup (mv.map rowD), .int j, .int k] ∧ isFr f mv j k ∧ (∀ m ∈ mv, j < m.length) ∧ mv.length ≤ 1000 ∧ Q (.bl true) n
def C_form_holds : Con := fun ds n Q => ∃ (nm : List D) (L : List (List Int × Int)) (M : List (List Int × Int × Int)) (F : Fm), ds = [sysD nm L M, F.d] ∧ SyS L M ∧ nm.length ≤ 1000 ∧ FmOk nm.length (rowsOf L) (restsOf M) 400 F ∧ Q (.bl true) n
def sg (N : Nat) (g : Nat → Int) : Int := ((List.range N).map g).sum
def mvk (wh m : List Int) (k : Int) : List Int := List.zipWith (fun w x => (if w = k then 1 else 0) - x) wh m
/-- the sum of a class is its mix -/
def Eqk (N : Nat) (wh m r : List Int) (k : Int) : Prop := sg N (fun j => if gt wh j = k then gt r j else 0) = sg N fun j => gt m j * gt r j
def C_l_called : Con := fun ds n Q => ∃ N : Nat, ds = [.deck, .int N] ∧ N ≤ 6 ∧ n + N ≤ mostDraws ∧ ∀ (xs : List Str) (n' : Nat), xs.length = N → (∀ x ∈ xs, OkS 8 x) → n' ≤ n + N → Q (.ptup (xs.map D.str)) n'
def rowL (r : List Int) : D := .lst (r.map D.int)
def SqI (d : D) (r : List Int) : Prop := d = rowL r ∨ d = rowD r
def C_l_dot : Con := fun ds n Q => ∃ (r o : List Int) (a b : D), ds = [a, b] ∧ SqI a r ∧ SqI b o ∧ r.length ≤ 100 ∧ (∀ x ∈ r, Sz 400 x) ∧ (∀ x ∈ o, Sz 400 x) ∧ Q (.int (dotL r o)) n
def OkR (N : Nat) (t : Int) (p : List Int × Int × Int) : Prop := p.1.length = N ∧ (∀ x ∈ p.1, x.natAbs ≤ 3) ∧ p.2.1 = p.1.sum * t % p.2.2 ∧ 2 ≤ p.2.2 ∧ p.2.2 ≤ 12
def C_l_marks : Con := fun ds n Q => ∃ (N : Nat) (t many : Int), ds = [.deck, .int N, .int t, .int many] ∧ N ≤ 6 ∧ t.natAbs ≤ 1000 ∧ 0 ≤ many ∧ many ≤ 5 ∧ n + 40 ≤ mostDraws ∧ ∀ (M : List (List Int × Int × Int)) (n' : Nat), (M.length : Int) = many → (∀ p ∈ M, OkR N t p) → n' ≤ n + 40 → Q (.lst (M.map rstE)) n'
/-- planted classes: where each place lies, the mixes, rows -/
structure Pn (N : Nat) (wh : List Int) (mx : List (List Int)) : Prop where
  wl : wh.length = N
  wk : ∀ x ∈ wh, 0 ≤ x ∧ x < mx.length
  mn : mx.length ≤ N
  ml : ∀ m ∈ mx, m.length = N ∧ ∀ x ∈ m, x.natAbs ≤ 1
  mz : ∀ k j : Nat, k < mx.length → j < N → (k : Int) ≤ gt wh j → ent mx k j = 0
def Lot (N : Nat) (wh : List Int) (mx : List (List Int)) (r : List Int) : Prop := r.length = N ∧ (∀ x ∈ r, x.natAbs ≤ 9) ∧ ∀ k : Nat, k < mx.length → Eqk N wh ((mx[k]?).getD []) r k
def plD (wh : List Int) (mx lots : List (List Int)) : D := .dct [.inr "where", .inr "mixes", .inr "lots"] [rowL wh, .lst (mx.map rowL), .lst (lots.map rowD)]
def C_l_planted : Con := fun ds n Q => ∃ (N : Nat) (many : Int), ds = [.deck, .int N, .int many] ∧ 1 ≤ N ∧ N ≤ 6 ∧ 0 ≤ many ∧ many ≤ 5 ∧ n + 100 ≤ mostDraws ∧ ∀ (wh : List Int) (mx lots : List (List Int)) (n' : Nat), Pn N wh mx → (∀ r ∈ lots, Lot N wh mx r) → (lots.length : Int) = many → n' ≤ n + 100 → Q (plD wh mx lots) n'
def ownMv (wh : List Int) (mx : List (List Int)) (b : Int) (k : Nat) : List Int := (mvk wh ((mx[k]?).getD []) k).map fun x => b * x
def ownF (wh : List Int) (mx : List (List Int)) (b : Int) : Fm := ⟨b, wh, (List.range mx.length).map (ownMv wh mx b)⟩
def C_l_own_form : Con := fun ds n Q => ∃ (wh : List Int) (mx lots : List (List Int)) (b : Int), ds = [plD wh mx lots, .int b] ∧ mx.length ≤ 100 ∧ wh.length ≤ 100 ∧ (∀ m ∈ mx, m.length = wh.length ∧ ∀ x ∈ m, Sz 10 x) ∧ Sz 200 b ∧ Q (ownF wh mx b).d n
def C_l_rewritten : Con := fun ds n Q => ∃ (N : Nat) (L : List (List Int)) (M : List (List Int × Int)) (b : Nat) (F : Fm), ds = [.deck, F.d] ∧ FmOk N L M b F ∧ b ≤ 200 ∧ N ≤ 100 ∧ (∀ r ∈ L, r.length = N) ∧ (∀ p ∈ M, p.1.length = N) ∧ F.mv.length ≤ 6 ∧ n + 40 ≤ mostDraws ∧
  ∀ (F' : Fm) (n' : Nat), FmOk N L M 300 F' → n' ≤ n + 40 → Q F'.d n'
def metB (L : List (List Int × Int)) (M : List (List Int × Int × Int)) (t : Int) : Bool := L.all (fun p => decide (p.1.sum * t = p.2)) && M.all (fun p => decide ((p.1.sum * t - p.2.1) % p.2.2 = 0))
structure SyT (N : Nat) (L : List (List Int × Int)) (M : List (List Int × Int × Int)) : Prop where
  n6 : N ≤ 6
  ll : L.length ≤ 100
  ml : M.length ≤ 100
  l : ∀ p ∈ L, p.1.length = N ∧ ∀ x ∈ p.1, x.natAbs ≤ 9
  m : ∀ p ∈ M, p.1.length = N ∧ (∀ x ∈ p.1, x.natAbs ≤ 9) ∧ 0 < p.2.2
def C_System_fulfils : Con := fun ds n Q => ∃ (nm : List D) (L : List (List Int × Int)) (M : List (List Int × Int × Int)) (N : Nat) (t : Int), ds = [sysD nm L M, rowD (List.replicate N t)] ∧ SyT N L M ∧ t.natAbs ≤ 3000 ∧ Q (.bl (metB L M t)) n
def C_is_alike : Con := fun ds n Q => ∃ (nm : List D) (L : List (List Int × Int)) (M : List (List Int × Int × Int)) (t : Int), ds = [sysD nm L M, .int t] ∧ SyT nm.length L M ∧ t.natAbs ≤ 3000 ∧ Q (.bl (metB L M t)) n
def C_is_alike_right : Con := fun ds n Q => ∃ (nm : List D) (L : List (List Int × Int)) (M : List (List Int × Int × Int)) (t : Int), ds = [sysD nm L M, .tup [.int t]] ∧ SyT nm.length L M ∧ t.natAbs ≤ 3000 ∧ Q (.bl (metB L M t && decide (0 < t))) n
def prtB (xs : List Str) (mv : List (List Int)) (a b : Str) : Bool := mv.any fun m => decide (gt m (xs.idxOf a) ≠ gt m (xs.idxOf b))
def pairD (p : Str × Str) : D := .tup [.str p.1, .str p.2]
def allP (xs : List Str) (mv : List (List Int)) (ps : List (Str × Str)) : Bool := ps.all fun p => prtB xs mv p.1 p.2
def InP (xs : List Str) (ps : List (Str × Str)) : Prop := ps.length ≤ 10 ∧ ∀ p ∈ ps, p.1 ∈ xs ∧ p.2 ∈ xs
def C_places_of_pair : Con := fun ds n Q => ∃ (xs : List Str) (L : List (List Int × Int)) (M : List (List Int × Int × Int)) (a b : Str), ds = [sysD (xs.map D.str) L M, pairD (a, b)] ∧ a ∈ xs ∧ b ∈ xs ∧ Q (.tup [.int (xs.idxOf a : Nat), .int (xs.idxOf b : Nat)]) n
def C_is_parted : Con := fun ds n Q => ∃ (xs : List Str) (L : List (List Int × Int)) (M : List (List Int × Int × Int)) (mv : List (List Int)) (a b : Str), ds = [sysD (xs.map D.str) L M, .tup (mv.map rowD), pairD (a, b)] ∧ a ∈ xs ∧ b ∈ xs ∧ (∀ m ∈ mv, m.length = xs.length) ∧ mv.length ≤ 1000 ∧ Q (.bl (prtB xs mv a b)) n
structure Wd (xs : List Str) (L : List (List Int × Int)) (M : List (List Int × Int × Int)) : Prop where
  ok : SyT xs.length L M
  s : ∀ x ∈ xs, OkS 8 x
def C_is_form_right : Con := fun ds n Q => ∃ (xs : List Str) (L : List (List Int × Int)) (M : List (List Int × Int × Int)) (t : Int) (F : Fm) (ps : List (Str × Str)), ds = [sysD (xs.map D.str) L M, .tup [.int t, F.d], .tup (ps.map pairD)] ∧ Wd xs L M ∧ t.natAbs ≤ 3000 ∧
  FmOk xs.length (rowsOf L) (restsOf M) 400 F ∧ InP xs ps ∧ Q (.bl (metB L M t && allP xs F.mv ps)) n
def C_verdict_holds : Con := fun ds n Q => ∃ (xs : List Str) (L : List (List Int × Int)) (M : List (List Int × Int × Int)) (t : Int) (F : Fm) (ps : List (Str × Str)), Wd xs L M ∧ t.natAbs ≤ 3000 ∧ InP xs ps ∧
  ((ds = [sysD (xs.map D.str) L M, .tup [.str "form", .int t, F.d], .tup (ps.map pairD)] ∧ FmOk xs.length (rowsOf L) (restsOf M) 400 F ∧ Q (.bl (metB L M t && allP xs F.mv ps)) n) ∨
  (ds = [sysD (xs.map D.str) L M, .tup [.str "alike", .int t], .tup (ps.map pairD)] ∧ Q (.bl (decide (ps = []) && (metB L M t && decide (0 < t)))) n))
def wD (xs : List Str) (L : List (List Int × Int)) (M : List (List Int × Int × Int)) : D := .dct [.inr "called", .inr "marks", .inr "lines"] [.ptup (xs.map D.str), .lst (M.map rstE), .lst (L.map rowE)]
def C_l_code : Con := fun ds n Q => ∃ (xs : List Str) (L : List (List Int × Int)) (M : List (List Int × Int × Int)), ds = [wD xs L M] ∧ Q (sysD (xs.map D.str) L M) n
def C_l_is_met : Con := fun ds n Q => ∃ (xs : List Str) (L : List (List Int × Int)) (M : List (List Int × Int × Int)) (t : Int), ds = [wD xs L M, rowD (List.replicate xs.length t)] ∧ SyT xs.length L M ∧ t.natAbs ≤ 3000 ∧ Q (.bl (metB L M t)) n
def C_l_apart : Con := fun ds n Q => ∃ (xs : List Str) (L : List (List Int × Int)) (M : List (List Int × Int × Int)) (k : Int), ds = [.deck, wD xs L M, .int k] ∧ xs.length ≤ 6 ∧ 0 ≤ k ∧ k ≤ 3 ∧ n + 20 ≤ mostDraws ∧ ∀ (ps : List (Str × Str)) (n' : Nat), InP xs ps → n' ≤ n + 20 → Q (.tup (ps.map pairD)) n'
def C_l_are_parted : Con := fun ds n Q => ∃ (xs : List Str) (L : List (List Int × Int)) (M : List (List Int × Int × Int)) (mv : List (List Int)) (ps : List (Str × Str)), ds = [wD xs L M, .tup (mv.map rowD), .tup (ps.map pairD)] ∧ InP xs ps ∧ (∀ m ∈ mv, m.length = xs.length) ∧ mv.length ≤ 1000 ∧ Q (.bl (allP xs mv ps)) n
structure Wrl (xs : List Str) (L : List (List Int × Int)) (M : List (List Int × Int × Int)) (t : Int) (F : Fm) : Prop where
  wd : Wd xs L M
  t4 : t.natAbs ≤ 4
  met : metB L M t = true
  f : FmOk xs.length (rowsOf L) (restsOf M) 100 F
  f6 : F.mv.length ≤ 6
def C_l_sure_world : Con := fun ds n Q => ds = [.deck] ∧ n + 200 ≤ mostDraws ∧ ∀ (xs : List Str) (L : List (List Int × Int)) (M : List (List Int × Int × Int)) (t : Int) (F : Fm) (n' : Nat), Wrl xs L M t F → n' ≤ n + 200 → Q (.tup [wD xs L M, .int t, F.d]) n'
def C_l_is_told : Con := fun ds n Q => ∃ (S it U : D) (b1 b2 : Bool) (p : PyData), ds = [S, it, U, .lst [.bl b1, .bl b2]] ∧ Sh it p 10 1000000 ∧ (∀ n Q, Q (.bl b1) n → C_verdict_holds [S, it, U] n Q) ∧ (∀ n Q, Q (.bl b2) n → C_verdict_holds [S, it, .tup []] n Q) ∧ Q (.bl true) n
def C_l_right : Con := fun ds n Q => ds = [.deck] ∧ n + 300 ≤ mostDraws ∧ ∀ n', n' ≤ n + 300 → Q (.bl true) n'
end Pg
namespace Pg
open PySem PySem.Spec PyProof.Rows L2 L3
abbrev N_product_sum : List Str := ["row", "other", "one", "two"]
abbrev N_System_uinitu : List Str := ["self", "names", "rows", "rests"]
abbrev N_System_fulfils : List Str := ["self", "numbers", "factors", "constant", "modulus"]
abbrev N_is_integer : List Str := ["thing"]
abbrev N_is_move : List Str := ["system", "thing", "one", "factors", "constant", "modulus"]
abbrev N_is_front : List Str := ["factor", "moves", "at", "thing", "move"]
abbrev N_form_holds : List Str := ["system", "thing", "factor", "fronts", "moves", "move", "at", "front"]
abbrev N_places_of_pair : List Str := ["system", "pair"]
abbrev N_is_parted : List Str := ["system", "moves", "pair", "one", "other", "move"]
abbrev N_is_alike : List Str := ["system", "thing"]
abbrev N_is_modulo_right : List Str := ["system", "parts"]
abbrev N_is_alike_right : List Str := ["system", "parts"]
abbrev N_is_never_right : List Str := ["system", "parts", "unlike", "point", "one", "other"]
abbrev N_is_form_right : List Str := ["system", "parts", "unlike", "factor", "fronts", "moves", "pair"]
abbrev N_is_digits_right : List Str := ["system", "parts", "unlike"]
abbrev N_verdict_holds : List Str := ["system", "thing", "unlike", "word", "parts"]
abbrev N_l_deck : List Str := ["_law_script", "_law_cells", "_law_blend", "_law_cell"]
abbrev N_l_draw : List Str := ["_law_deck_here", "_law_many", "_law_turn", "_law_cell", "_law_held"]
abbrev N_l_dot : List Str := ["_law_a", "_law_b", "_law_x", "_law_y"]
abbrev N_l_code : List Str := ["_law_w"]
abbrev N_l_is_met : List Str := ["_law_w", "_law_some", "_law_worth", "_law_due", "_law_by"]
abbrev N_l_called : List Str := ["_law_deck_here", "_law_n", "_law_pool", "_law_k"]
abbrev N_l_planted : List Str := ["_law_deck_here", "_law_n", "_law_many", "_law_spots", "_law_k", "_law_kinds", "_law_where", "_law_mixes", "_law_lots", "_law_kind", "_law_go", "_law_some", "_law_mix", "_law_own", "_law_x"]
abbrev N_l_marks : List Str := ["_law_deck_here", "_law_n", "_law_t", "_law_many", "_law_found", "_law_go", "_law_worth", "_law_by", "_law_k"]
abbrev N_l_own_form : List Str := ["_law_planted_here", "_law_by", "_law_found", "_law_kind", "_law_mix", "_law_spot", "_law_x"]
abbrev N_l_rewritten : List Str := ["_law_deck_here", "_law_it", "_law_factor", "_law_where", "_law_lots", "_law_lot", "_law_k", "_law_by", "_law_mate", "_law_x", "_law_y", "_law_at", "_law_go"]
abbrev N_l_apart : List Str := ["_law_deck_here", "_law_w", "_law_many", "_law_found", "_law_n", "_law_go", "_law_k", "_law_j"]
abbrev N_l_are_parted : List Str := ["_law_w", "_law_lots", "_law_apart_here", "_law_a", "_law_b", "_law_x", "_law_y", "_law_lot"]
abbrev N_l_sure_world : List Str := ["_law_deck_here", "_law_n", "_law_t", "_law_planted_here", "_law_by", "_law_some", "_law_w", "_law_worth", "_law_due", "_law_more"]
abbrev N_l_is_told : List Str := ["_law_code_here", "_law_it", "_law_apart_here", "_law_due", "_law_kept", "_law_told"]
abbrev N_l_right : List Str := ["_law_deck_here", "_law_w", "_law_t", "_law_own", "_law_code_here", "_law_apart_here", "_law_it", "_law_same", "_law_k", "_law_due", "_law_plain"]
abbrev N_law : List Str := ["_law_script", "_law_deck_here", "_law_go"]
abbrev tab_names : List (Nat × Nat) := [(0, 0)]
abbrev tab_rests : List (Nat × Nat) := [(0, 2)]
abbrev tab_rows : List (Nat × Nat) := [(0, 1)]
def w_l_draw : WS :=
  (wSeq (wAsg 4 (wOp fMod (wCB fInt (wCons (wOp fMulB (wOp fAdd (wOp fAdd (wOp fMod (wCB fInt (wCons (wVar 3) wNil)) (wC (.int 2147483629))) (wOp fMulB (wOp fMulB (wC (.int 60497)) (wVar 2)) (wVar 2))) (wC (.int 67))) (wC (.int 40692))) wNil)) (wC (.int 2147483647))))
    (wSeq (wAsg 4 (wOp fMod (wCB fInt (wCons (wOp fAdd (wOp fAdd (wOp fMulB (wVar 4) (wVar 4)) (wOp fMulB (wC (.int 69621)) (wVar 2))) (wC (.int 127))) wNil)) (wC (.int 2147483587))))
    (wRet (wOp fMod (wCB fInt (wCons (wOp fFdiv (wOp fMod (wCB fInt (wCons (wOp fMulB (wVar 4) (wC (.int 39373))) wNil)) (wC (.int 2147483563))) (wC (.int 64))) wNil)) (wVar 1)))))
def w_product_sum : WS :=
  (wRet (wCB fSumB (wCons (wLc (wZip (wCons (wVar 0) (wCons (wVar 1) wNil))) (gTup3 2 (gCons3 (gN 2) (gCons3 (gN 3) gNil3))) wYes (wOp fMulB (wVar 2) (wVar 3)) [2, 3]) wNil)))
def w_System_uinitu : WS :=
  (wSeq (wSetF 0 tab_names (wVar 1))
    (wSeq (wSetF 0 tab_rows (wVar 2))
    (wSetF 0 tab_rests (wVar 3))))
def w_System_fulfils : WS :=
  (wSeq (wFor (wItems asS (wUn (fFld tab_rows) (wVar 0))) (gTup3 2 (gCons3 (gN 2) (gCons3 (gN 3) gNil3))) (wIfS (wTest (wOp (fEq true) (wCall C_product_sum [] (wCons (wVar 2) (wCons (wVar 1) wNil))) (wVar 3))) (wRet (wC (.bl false))) wNext))
    (wSeq (wFor (wItems asS (wUn (fFld tab_rests) (wVar 0))) (gTup3 3 (gCons3 (gN 2) (gCons3 (gN 3) (gCons3 (gN 4) gNil3)))) (wIfS (wTest (wOp (fEq true) (wOp fMod (wOp fSub (wCall C_product_sum [] (wCons (wVar 2) (wCons (wVar 1) wNil))) (wVar 3)) (wVar 4)) (wC (.int 0)))) (wRet (wC (.bl false))) wNext))
    (wRet (wC (.bl true)))))
def w_is_integer : WS :=
  (wRet (wAndV (wUn (fIsI "int") (wVar 0)) (wNotV (wUn (fIsI "bool") (wVar 0)))))
def w_is_move : WS :=
  (wSeq (wIfS (wOr (wNot (wTest (wUn (fIsI "tuple") (wVar 1)))) (wOr (wTest (wOp (fEq true) (wCB fLen (wCons (wVar 1) wNil)) (wCB fLen (wCons (wWk (wUn (fFld tab_names) (wVar 0))) wNil)))) (wNot (wTest (wCB fAll (wCons (wLc (wItems asS (wVar 1)) (gN 2) wYes (wCall C_is_integer [] (wCons (wVar 2) wNil)) [2]) wNil)))))) (wRet (wC (.bl false))) wNext)
    (wSeq (wIfS (wNot (wTest (wCB fAll (wCons (wLc (wItems asS (wUn (fFld tab_rows) (wVar 0))) (gTup3 2 (gCons3 (gN 3) (gCons3 (gN 4) gNil3))) wYes (wOp (fEq false) (wCall C_product_sum [] (wCons (wVar 3) (wCons (wVar 1) wNil))) (wC (.int 0))) [3, 4]) wNil)))) (wRet (wC (.bl false))) wNext)
    (wRet (wCB fAll (wCons (wLc (wItems asS (wUn (fFld tab_rests) (wVar 0))) (gTup3 3 (gCons3 (gN 3) (gCons3 (gN 4) (gCons3 (gN 5) gNil3)))) wYes (wOp (fEq false) (wOp fMod (wCall C_product_sum [] (wCons (wVar 3) (wCons (wVar 1) wNil))) (wVar 5)) (wC (.int 0))) [3, 4, 5]) wNil)))))
def w_is_front : WS :=
  (wSeq (wIfS (wOr (wNot (wTest (wCall C_is_integer [] (wCons (wVar 3) wNil)))) (wNot (wTest (wChain fLe fLt (wC (.int 0)) (wVar 3) (wCB fLen (wCons (wVar 1) wNil)))))) (wRet (wC (.bl false))) wNext)
    (wRet (wAndV (wOp (fEq false) (wOp fIx (wOp fIx (wVar 1) (wVar 3)) (wVar 2)) (wVar 0)) (wCB fAll (wCons (wLc (wItems asS (wSl (wVar 1) wNoP (wP (wVar 3)))) (gN 4) wYes (wOp (fEq false) (wOp fIx (wVar 4) (wVar 2)) (wC (.int 0))) [4]) wNil)))))
def w_form_holds : WS :=
  (wSeq (wIfS (wOr (wNot (wTest (wUn (fIsI "tuple") (wVar 1)))) (wTest (wOp (fEq true) (wCB fLen (wCons (wVar 1) wNil)) (wC (.int 3))))) (wRet (wC (.bl false))) wNext)
    (wSeq (wAsgG (gTup3 3 (gCons3 (gN 2) (gCons3 (gN 3) (gCons3 (gN 4) gNil3)))) (wVar 1))
    (wSeq (wIfS (wOr (wNot (wTest (wCall C_is_integer [] (wCons (wVar 2) wNil)))) (wOr (wTest (wOp fLt (wVar 2) (wC (.int 1)))) (wOr (wNot (wTest (wUn (fIsI "tuple") (wVar 4)))) (wNot (wTest (wChain fLe fLe (wC (.int 1)) (wCB fLen (wCons (wVar 4) wNil)) (wC (.int 12)))))))) (wRet (wC (.bl false))) wNext)
    (wSeq (wIfS (wOr (wNot (wTest (wUn (fIsI "tuple") (wVar 3)))) (wTest (wOp (fEq true) (wCB fLen (wCons (wVar 3) wNil)) (wCB fLen (wCons (wWk (wUn (fFld tab_names) (wVar 0))) wNil))))) (wRet (wC (.bl false))) wNext)
    (wSeq (wIfS (wNot (wTest (wCB fAll (wCons (wLc (wItems asS (wVar 4)) (gN 5) wYes (wCall C_is_move [] (wCons (wVar 0) (wCons (wVar 5) wNil))) [5]) wNil)))) (wRet (wC (.bl false))) wNext)
    (wRet (wCB fAll (wCons (wLc (wEnum (wCons (wVar 3) wNil)) (gTup3 2 (gCons3 (gN 6) (gCons3 (gN 7) gNil3))) wYes (wCall C_is_front [] (wCons (wVar 2) (wCons (wVar 4) (wCons (wVar 6) (wCons (wVar 7) wNil))))) [6, 7]) wNil))))))))
def w_places_of_pair : WS :=
  (wRet (wTup (wCons (wIdxP (wUn (fFld tab_names) (wVar 0)) (wOp fIx (wVar 1) (wC (.int 0)))) (wCons (wIdxP (wUn (fFld tab_names) (wVar 0)) (wOp fIx (wVar 1) (wC (.int 1)))) wNil))))
def w_is_parted : WS :=
  (wSeq (wAsgG (gTup3 2 (gCons3 (gN 3) (gCons3 (gN 4) gNil3))) (wCall C_places_of_pair [] (wCons (wVar 0) (wCons (wVar 2) wNil))))
    (wRet (wCB fAny (wCons (wLc (wItems asS (wVar 1)) (gN 5) wYes (wOp (fEq true) (wOp fIx (wVar 5) (wVar 3)) (wOp fIx (wVar 5) (wVar 4))) [5]) wNil))))
def w_is_alike : WS :=
  (wRet (wAndV (wCall C_is_integer [] (wCons (wVar 1) wNil)) (wMeth 0 C_System_fulfils 1 0 [0] [] (wVar 0) (wCons (wOp fMulB (wTup (wCons (wVar 1) wNil)) (wCB fLen (wCons (wWk (wUn (fFld tab_names) (wVar 0))) wNil))) wNil) wNil)))
def w_is_alike_right : WS :=
  (wRet (wAndV (wOp (fEq false) (wCB fLen (wCons (wVar 1) wNil)) (wC (.int 1))) (wAndV (wCall C_is_alike [] (wCons (wVar 0) (wCons (wOp fIx (wVar 1) (wC (.int 0))) wNil))) (wOp fGt (wOp fIx (wVar 1) (wC (.int 0))) (wC (.int 0))))))
def w_is_form_right : WS :=
  (wSeq (wIfS (wOr (wTest (wOp (fEq true) (wCB fLen (wCons (wVar 1) wNil)) (wC (.int 2)))) (wOr (wNot (wTest (wCall C_is_alike [] (wCons (wVar 0) (wCons (wOp fIx (wVar 1) (wC (.int 0))) wNil))))) (wNot (wTest (wCall C_form_holds [] (wCons (wVar 0) (wCons (wOp fIx (wVar 1) (wC (.int 1))) wNil))))))) (wRet (wC (.bl false))) wNext)
    (wSeq (wAsgG (gTup3 3 (gCons3 (gN 3) (gCons3 (gN 4) (gCons3 (gN 5) gNil3)))) (wOp fIx (wVar 1) (wC (.int 1))))
    (wRet (wCB fAll (wCons (wLc (wItems asS (wVar 2)) (gN 6) wYes (wCall C_is_parted [] (wCons (wVar 0) (wCons (wVar 5) (wCons (wVar 6) wNil)))) [6]) wNil)))))
def w_verdict_holds : WS :=
  (wSeq (wIfS (wOr (wNot (wTest (wUn (fIsI "tuple") (wVar 1)))) (wOr (wTest (wOp (fEq false) (wVar 1) (wTup wNil))) (wNot (wTest (wUn (fIsI "str") (wOp fIx (wVar 1) (wC (.int 0)))))))) (wRet (wC (.bl false))) wNext)
    (wSeq (wPar2 3 false 4 false (wOp fIx (wVar 1) (wC (.int 0))) (wSl (wVar 1) (wP (wC (.int 1))) wNoP))
    (wSeq (wIfS (wTest (wOp (fEq false) (wVar 3) (wC (.str "modulo")))) (wRet (wCall C_is_modulo_right [] (wCons (wVar 0) (wCons (wVar 4) wNil)))) wNext)
    (wSeq (wIfS (wTest (wOp (fEq false) (wVar 3) (wC (.str "alike")))) (wRet (wAndV (wOp (fEq false) (wVar 2) (wTup wNil)) (wCall C_is_alike_right [] (wCons (wVar 0) (wCons (wVar 4) wNil))))) wNext)
    (wSeq (wIfS (wTest (wOp (fEq false) (wVar 3) (wC (.str "never")))) (wRet (wCall C_is_never_right [] (wCons (wVar 0) (wCons (wVar 4) (wCons (wVar 2) wNil))))) wNext)
    (wSeq (wIfS (wTest (wOp (fEq false) (wVar 3) (wC (.str "form")))) (wRet (wCall C_is_form_right [] (wCons (wVar 0) (wCons (wVar 4) (wCons (wVar 2) wNil))))) wNext)
    (wRet (wAndV (wOp (fEq false) (wVar 3) (wC (.str "digits"))) (wCall C_is_digits_right [] (wCons (wVar 0) (wCons (wVar 4) (wCons (wVar 2) wNil))))))))))))
def w_l_dot : WS :=
  (wRet (wCB fSumB (wCons (wLc (wZip (wCons (wVar 0) (wCons (wVar 1) wNil))) (gTup3 2 (gCons3 (gN 2) (gCons3 (gN 3) gNil3))) wYes (wOp fMulB (wVar 2) (wVar 3)) [2, 3]) wNil)))
def w_l_code : WS :=
  (wRet (wCallP C_System_uinitu 3 0 [0, 1, 2] [.tup []] (wCons (wOp fDGet (wVar 0) (wC (.str "called"))) (wCons (wCB fTuple (wCons (wOp fDGet (wVar 0) (wC (.str "lines"))) wNil)) (wCons (wCB fTuple (wCons (wOp fDGet (wVar 0) (wC (.str "marks"))) wNil)) wNil))) wNil))
def w_l_is_met : WS :=
  (wSeq (wFor (wItems asS (wOp fDGet (wVar 0) (wC (.str "lines")))) (gTup3 2 (gCons3 (gN 2) (gCons3 (gN 3) gNil3))) (wIfS (wTest (wOp (fEq true) (wCallF C_l_dot [] (wCons (wVar 2) (wCons (wVar 1) wNil))) (wVar 3))) (wRet (wC (.bl false))) wNext))
    (wSeq (wFor (wItems asS (wOp fDGet (wVar 0) (wC (.str "marks")))) (gTup3 3 (gCons3 (gN 2) (gCons3 (gN 3) (gCons3 (gN 4) gNil3)))) (wIfS (wTest (wOp (fEq true) (wOp fMod (wCB fInt (wCons (wOp fSub (wCallF C_l_dot [] (wCons (wVar 2) (wCons (wVar 1) wNil))) (wVar 3)) wNil)) (wVar 4)) (wC (.int 0)))) (wRet (wC (.bl false))) wNext))
    (wRet (wC (.bl true)))))
def w_l_called : WS :=
  (wSeq (wAsgO 2 (wM1 fSplit (wC (.str "x y z a1 bb q zz9 n0 abcdefgh k it u7 w")) (wC (.str " "))))
    (wRet (wCB fTupP (wCons (wLc (wRng1 (wCons (wVar 1) wNil)) (gN 3) wYes (wPopAt 2 (wCall C_l_draw [] (wCons (wVar 0) (wCons (wCB fLen (wCons (wVar 2) wNil)) wNil)))) [3]) wNil))))
def w_l_planted : WS :=
  (wSeq (wAsg 3 (wLc (wRng1 (wCons (wVar 1) wNil)) (gN 4) wYes (wCall C_l_draw [] (wCons (wVar 0) (wCons (wVar 1) wNil))) [4]))
    (wSeq (wAsg 5 (wSortSet (wVar 3)))
    (wSeq (wPar3 6 false 7 true 8 true (wLc (wItems asS (wVar 3)) (gN 4) wYes (wL1 fIdxL (wVar 5) (wVar 4)) [4]) (wLst wNil) (wLst wNil))
    (wSeq (wFor (wRng1 (wCons (wCB fLen (wCons (wVar 5) wNil)) wNil)) (gN 9) (wAppend 7 (wLc (wRng1 (wCons (wVar 1) wNil)) (gN 4) wYes (wIf (wTest (wOp fLt (wOp fIx (wVar 6) (wVar 4)) (wVar 9))) (wOp fSub (wCall C_l_draw [] (wCons (wVar 0) (wCons (wC (.int 3)) wNil))) (wC (.int 1))) (wC (.int 0))) [4])))
    (wSeq (wFor (wRng1 (wCons (wVar 2) wNil)) (gN 10) (wSeq (wAsgO 11 (wLc (wRng1 (wCons (wVar 1) wNil)) (gN 4) wYes (wOp fSub (wCall C_l_draw [] (wCons (wVar 0) (wCons (wC (.int 5)) wNil))) (wC (.int 2))) [4]))
    (wFreeA 7 (wSeq (wFor (wEnum (wCons (wVar 7) wNil)) (gTup3 2 (gCons3 (gN 9) (gCons3 (gN 12) gNil3))) (wSeq (wAsg 13 (wLc (wRng1 (wCons (wVar 1) wNil)) (gN 4) (wTest (wOp (fEq false) (wOp fIx (wVar 6) (wVar 4)) (wVar 9))) (wVar 4) [4]))
    (wSetIx 11 (wOp fSub (wCallF C_l_dot [] (wCons (wVar 12) (wCons (wVar 11) wNil))) (wCB fSumB (wCons (wLc (wItems asS (wSl (wVar 13) wNoP (wP (wUn fNeg (wC (.int 1)))))) (gN 4) wYes (wOp fIx (wVar 11) (wVar 4)) [4]) wNil))) (wOp fIx (wVar 13) (wUn fNeg (wC (.int 1)))))))
    (wFreeA 11 (wAppend 8 (wIf (wTest (wOp fLt (wCB fMax (wCons (wLc (wItems asS (wVar 11)) (gN 14) wYes (wCB fAbs (wCons (wVar 14) wNil)) [14]) wNil)) (wC (.int 10)))) (wCB fTuple (wCons (wVar 11) wNil)) (wOp fMulB (wTup (wCons (wC (.int 0)) wNil)) (wVar 1)))))))))
    (wFreeA 7 (wFreeA 8 (wRet (wDisp [((wC (.str "where")), (wVar 6)), ((wC (.str "mixes")), (wVar 7)), ((wC (.str "lots")), (wVar 8))])))))))))
def w_l_marks : WS :=
  (wSeq (wAsgO 4 (wLst wNil))
    (wSeq (wFor (wRng1 (wCons (wVar 3) wNil)) (gN 5) (wSeq (wPar2 6 false 7 false (wCB fTuple (wCons (wLc (wRng1 (wCons (wVar 1) wNil)) (gN 8) wYes (wOp fSub (wCall C_l_draw [] (wCons (wVar 0) (wCons (wC (.int 7)) wNil))) (wC (.int 3))) [8]) wNil)) (wOp fAdd (wC (.int 2)) (wCall C_l_draw [] (wCons (wVar 0) (wCons (wC (.int 11)) wNil)))))
    (wAppend 4 (wTup (wCons (wVar 6) (wCons (wOp fMod (wCB fInt (wCons (wOp fMulB (wCB fSumB (wCons (wVar 6) wNil)) (wVar 2)) wNil)) (wVar 7)) (wCons (wVar 7) wNil)))))))
    (wRet (wVar 4))))
def w_l_own_form : WS :=
  (wSeq (wAsgO 2 (wLst wNil))
    (wSeq (wFor (wEnum (wCons (wOp fDGet (wVar 0) (wC (.str "mixes"))) wNil)) (gTup3 2 (gCons3 (gN 3) (gCons3 (gN 4) gNil3))) (wAppend 2 (wCB fTuple (wCons (wLc (wZip (wCons (wOp fDGet (wVar 0) (wC (.str "where"))) (wCons (wVar 4) wNil))) (gTup3 2 (gCons3 (gN 5) (gCons3 (gN 6) gNil3))) wYes (wOp fMulB (wVar 1) (wOp fSub (wCB fInt (wCons (wOp (fEq false) (wVar 5) (wVar 3)) wNil)) (wVar 6))) [5, 6]) wNil))))
    (wRet (wTup (wCons (wVar 1) (wCons (wCB fTuple (wCons (wOp fDGet (wVar 0) (wC (.str "where"))) wNil)) (wCons (wCB fTuple (wCons (wVar 2) wNil)) wNil)))))))
def w_l_rewritten : WS :=
  (wSeq (wPar3 2 false 3 false 4 true (wOp fIx (wVar 1) (wC (.int 0))) (wCB fList (wCons (wOp fIx (wVar 1) (wC (.int 1))) wNil)) (wLc (wItems asS (wOp fIx (wVar 1) (wC (.int 2)))) (gN 5) wYes (wCB fList (wCons (wVar 5) wNil)) [5]))
    (wSeq (wFor (wRng2 (wCons (wC (.int 1)) (wCons (wCB fLen (wCons (wVar 4) wNil)) wNil))) (gN 6) (wSeq (wAsgG (gTup3 2 (gCons3 (gN 7) (gCons3 (gN 8) gNil3))) (wTup (wCons (wOp fSub (wCall C_l_draw [] (wCons (wVar 0) (wCons (wC (.int 5)) wNil))) (wC (.int 2))) (wCons (wOp fIx (wVar 4) (wCall C_l_draw [] (wCons (wVar 0) (wCons (wVar 6) wNil)))) wNil))))
    (wSetIx 4 (wLc (wZip (wCons (wOp fIx (wVar 4) (wVar 6)) (wCons (wVar 8) wNil))) (gTup3 2 (gCons3 (gN 9) (gCons3 (gN 10) gNil3))) wYes (wOp fAdd (wVar 9) (wOp fMulB (wVar 7) (wVar 10))) [9, 10]) (wVar 6))))
    (wSeq (wIfS (wTest (wOp (fEq false) (wCall C_l_draw [] (wCons (wVar 0) (wCons (wC (.int 2)) wNil))) (wC (.int 0)))) (wSeq (wAsg 7 (wOp fAdd (wC (.int 2)) (wCall C_l_draw [] (wCons (wVar 0) (wCons (wOp fPow (wC (.int 10)) (wC (.int 6))) wNil)))))
    (wFreeA 4 (wPar2 2 false 4 true (wOp fMulB (wVar 2) (wVar 7)) (wLc (wItems asS (wVar 4)) (gN 5) wYes (wLc (wItems asS (wVar 5)) (gN 9) wYes (wOp fMulB (wVar 9) (wVar 7)) [9]) [5])))) wNext)
    (wSeq (wIfS (wTest (wOp (fEq false) (wCall C_l_draw [] (wCons (wVar 0) (wCons (wC (.int 2)) wNil))) (wC (.int 0)))) (wSeq (wAsg 11 (wCall C_l_draw [] (wCons (wVar 0) (wCons (wOp fAdd (wCB fLen (wCons (wVar 4) wNil)) (wC (.int 1))) wNil))))
    (wSeq (wInsert 4 (wVar 11) (wOp fMulB (wLst (wCons (wC (.int 0)) wNil)) (wCB fLen (wCons (wVar 3) wNil))))
    (wAsg 3 (wLc (wItems asS (wVar 3)) (gN 6) wYes (wOp fAdd (wVar 6) (wCB fInt (wCons (wOp fGe (wVar 6) (wVar 11)) wNil))) [6])))) wNext)
    (wSeq (wFor (wRng1 (wCons (wCall C_l_draw [] (wCons (wVar 0) (wCons (wC (.int 6)) wNil))) wNil)) (gN 12) (wSeq (wAsg 7 (wOp fSub (wCall C_l_draw [] (wCons (wVar 0) (wCons (wC (.int 7)) wNil))) (wC (.int 3))))
    (wAppend 4 (wLc (wItems asS (wOp fIx (wVar 4) (wCall C_l_draw [] (wCons (wVar 0) (wCons (wCB fLen (wCons (wVar 4) wNil)) wNil))))) (gN 9) wYes (wOp fMulB (wVar 7) (wVar 9)) [9]))))
    (wFreeA 4 (wRet (wTup (wCons (wVar 2) (wCons (wCB fTuple (wCons (wVar 3) wNil)) (wCons (wCB fTuple (wCons (wLc (wItems asS (wVar 4)) (gN 5) wYes (wCB fTuple (wCons (wVar 5) wNil)) [5]) wNil)) wNil)))))))))))
def w_l_apart : WS :=
  (wSeq (wPar2 3 true 4 false (wLst wNil) (wCB fLen (wCons (wWk (wOp fDGet (wVar 1) (wC (.str "called")))) wNil)))
    (wSeq (wFor (wRng1 (wCons (wIf (wTest (wOp fGt (wVar 4) (wC (.int 1)))) (wVar 2) (wC (.int 0))) wNil)) (gN 5) (wSeq (wAsg 6 (wCall C_l_draw [] (wCons (wVar 0) (wCons (wVar 4) wNil))))
    (wSeq (wAsg 7 (wOp fMod (wOp fAdd (wOp fAdd (wVar 6) (wC (.int 1))) (wCall C_l_draw [] (wCons (wVar 0) (wCons (wOp fSub (wVar 4) (wC (.int 1))) wNil)))) (wVar 4)))
    (wAppend 3 (wTup (wCons (wOp fIx (wWk (wOp fDGet (wVar 1) (wC (.str "called")))) (wVar 6)) (wCons (wOp fIx (wWk (wOp fDGet (wVar 1) (wC (.str "called")))) (wVar 7)) wNil)))))))
    (wRet (wCB fTuple (wCons (wVar 3) wNil)))))
def w_l_are_parted : WS :=
  (wSeq (wFor (wItems asS (wVar 2)) (gTup3 2 (gCons3 (gN 3) (gCons3 (gN 4) gNil3))) (wSeq (wAsgG (gTup3 2 (gCons3 (gN 5) (gCons3 (gN 6) gNil3))) (wTup (wCons (wIdxP (wOp fDGet (wVar 0) (wC (.str "called"))) (wVar 3)) (wCons (wIdxP (wOp fDGet (wVar 0) (wC (.str "called"))) (wVar 4)) wNil))))
    (wIfS (wTest (wOp (fEq false) (wLc (wItems asS (wVar 1)) (gN 7) (wTest (wOp (fEq true) (wOp fIx (wVar 7) (wVar 5)) (wOp fIx (wVar 7) (wVar 6)))) (wVar 7) [7]) (wLst wNil))) (wRet (wC (.bl false))) wNext)))
    (wRet (wC (.bl true))))
def w_l_sure_world : WS :=
  (wSeq (wAsgG (gTup3 2 (gCons3 (gN 1) (gCons3 (gN 2) gNil3))) (wTup (wCons (wOp fAdd (wC (.int 1)) (wCall C_l_draw [] (wCons (wVar 0) (wCons (wC (.int 5)) wNil)))) (wCons (wOp fSub (wCall C_l_draw [] (wCons (wVar 0) (wCons (wC (.int 9)) wNil))) (wC (.int 4))) wNil))))
    (wSeq (wPar2 3 false 4 false (wCall C_l_planted [] (wCons (wVar 0) (wCons (wVar 1) (wCons (wOp fAdd (wC (.int 1)) (wCall C_l_draw [] (wCons (wVar 0) (wCons (wC (.int 3)) wNil)))) wNil)))) (wOp fAdd (wC (.int 1)) (wCall C_l_draw [] (wCons (wVar 0) (wCons (wC (.int 3)) wNil)))))
    (wSeq (wIfS (wTest (wOp fGt (wCB fMax (wCons (wLc (wItems asS (wOp fDGet (wVar 3) (wC (.str "lots")))) (gN 5) wYes (wCB fAbs (wCons (wOp fMulB (wCB fSumB (wCons (wVar 5) wNil)) (wVar 2)) wNil)) [5]) wNil)) (wC (.int 40)))) (wAsg 2 (wC (.int 0))) wNext)
    (wSeq (wAsgO 6 (wDisp [((wC (.str "called")), (wCall C_l_called [] (wCons (wVar 0) (wCons (wVar 1) wNil)))), ((wC (.str "marks")), (wCall C_l_marks [] (wCons (wVar 0) (wCons (wVar 1) (wCons (wVar 2) (wCons (wCall C_l_draw [] (wCons (wVar 0) (wCons (wC (.int 3)) wNil))) wNil))))))]))
    (wSeq (wDPut 6 (wLc (wItems asS (wOp fDGet (wVar 3) (wC (.str "lots")))) (gN 5) wYes (wTup (wCons (wVar 5) (wCons (wOp fMulB (wCB fSumB (wCons (wVar 5) wNil)) (wVar 2)) wNil))) [5]) (wC (.str "lines")))
    (wSeq (wFor (wItems asS (wOp fDGet (wVar 6) (wC (.str "marks")))) (gTup3 3 (gCons3 (gN 7) (gCons3 (gN 8) (gCons3 (gN 9) gNil3)))) (wAsg 4 (wOp fMulB (wVar 4) (wVar 9))))
    (wFreeA 6 (wRet (wTup (wCons (wVar 6) (wCons (wVar 2) (wCons (wCall C_l_own_form [] (wCons (wVar 3) (wCons (wVar 4) wNil))) wNil))))))))))))
def w_l_is_told : WS :=
  (wSeq (wAsg 4 (wCB fRepr (wCons (wVar 1) wNil)))
    (wSeq (wAsg 5 (wLst (wCons (wCallP C_verdict_holds 2 1 [0, 1, 2] [] (wCons (wVar 0) (wCons (wVar 1) wNil)) (wCons (wVar 2) wNil)) (wCons (wCallP C_verdict_holds 2 0 [0, 1, 2] [.tup []] (wCons (wVar 0) (wCons (wVar 1) wNil)) wNil) wNil))))
    (wRet (wAndV (wOp (fEq false) (wCB fRepr (wCons (wVar 5) wNil)) (wCB fRepr (wCons (wVar 3) wNil))) (wOp (fEq false) (wCB fRepr (wCons (wVar 1) wNil)) (wVar 4))))))
def w_l_right : WS :=
  (wSeq (wAsgG (gTup3 3 (gCons3 (gN 1) (gCons3 (gN 2) (gCons3 (gN 3) gNil3)))) (wCall C_l_sure_world [] (wCons (wVar 0) wNil)))
    (wSeq (wPar2 4 false 5 false (wCall C_l_code [] (wCons (wVar 1) wNil)) (wCall C_l_apart [] (wCons (wVar 0) (wCons (wVar 1) (wCons (wCall C_l_draw [] (wCons (wVar 0) (wCons (wC (.int 3)) wNil))) wNil)))))
    (wSeq (wFor (wItems asS (wTup (wCons (wVar 3) (wCons (wCall C_l_rewritten [] (wCons (wVar 0) (wCons (wVar 3) wNil))) wNil)))) (gN 6) (wIfS (wNot (wTest (wCall C_l_is_told [] (wCons (wVar 4) (wCons (wTup (wCons (wC (.str "form")) (wCons (wVar 2) (wCons (wVar 6) wNil)))) (wCons (wVar 5) (wCons (wLst (wCons (wCall C_l_are_parted [] (wCons (wVar 1) (wCons (wOp fIx (wVar 6) (wC (.int 2))) (wCons (wVar 5) wNil)))) (wCons (wC (.bl true)) wNil))) wNil))))))) (wRet (wC (.bl false))) wNext))
    (wSeq (wAsg 7 (wLc (wRng2 (wCons (wUn fNeg (wC (.int 60))) (wCons (wC (.int 1101)) wNil))) (gN 8) (wTest (wCall C_l_is_met [] (wCons (wVar 1) (wCons (wOp fMulB (wTup (wCons (wVar 8) wNil)) (wCB fLen (wCons (wWk (wOp fDGet (wVar 1) (wC (.str "called")))) wNil))) wNil)))) (wVar 8) [8]))
    (wSeq (wFor (wItems asS (wOp fAdd (wOp fAdd (wSl (wVar 7) wNoP (wP (wC (.int 2)))) (wSl (wVar 7) (wP (wUn fNeg (wC (.int 1)))) wNoP)) (wLst (wCons (wOp fAdd (wOp fIx (wVar 7) (wC (.int 0))) (wC (.int 1))) wNil)))) (gN 8) (wSeq (wPar2 9 false 10 false (wOp (fIn false) (wVar 8) (wVar 7)) (wOp (fEq false) (wVar 5) (wTup wNil)))
    (wSeq (wIfS (wNot (wTest (wCall C_l_is_told [] (wCons (wVar 4) (wCons (wTup (wCons (wC (.str "alike")) (wCons (wVar 8) wNil))) (wCons (wVar 5) (wCons (wLst (wCons (wAndV (wVar 9) (wAndV (wVar 10) (wOp fGt (wVar 8) (wC (.int 0))))) (wCons (wAndV (wVar 9) (wOp fGt (wVar 8) (wC (.int 0)))) wNil))) wNil))))))) (wRet (wC (.bl false))) wNext)
    (wIfS (wNot (wTest (wCall C_l_is_told [] (wCons (wVar 4) (wCons (wTup (wCons (wC (.str "form")) (wCons (wVar 8) (wCons (wVar 3) wNil)))) (wCons (wVar 5) (wCons (wLst (wCons (wAndV (wVar 9) (wCall C_l_are_parted [] (wCons (wVar 1) (wCons (wOp fIx (wVar 3) (wC (.int 2))) (wCons (wVar 5) wNil))))) (wCons (wVar 9) wNil))) wNil))))))) (wRet (wC (.bl false))) wNext))))
    (wRet (wC (.bl true))))))))
def w_law : WS :=
  (wSeq (wFor (wRng1 (wCons (wC (.int 6)) wNil)) (gN 2) (wIfS (wNot (wTest (wCall C_l_right [] (wCons (wVar 1) wNil)))) (wRet (wC (.bl false))) wNext))
    (wRet (wC (.bl true))))
end Pg
namespace Pg
open PySem PySem.Spec PyProof.Rows L2 L3
theorem len_System_uinitu : ∀ ds n Q, C_System_uinitu ds n Q → ds.length + 1 = 4 := fun ds n Q ⟨_, _, _, e, _⟩ => by rw [e]; rfl
theorem pf_System_uinitu : ∀ ds n Q, C_System_uinitu ds n Q → w_System_uinitu ⟨fun δ => ∃ fs, δ.sl[0]? = some (some (.ow (.ins 0 fs))) ∧ Q (.ins 0 fs) δ.n, fun _ _ => False, fun _ => False, fun _ => False⟩ ⟨startI N_System_uinitu 0 ds, n⟩ := by
  rintro ds n Q ⟨a, b, c, rfl, q⟩
  simp [w_System_uinitu, startI]
  exact ⟨0, [], ⟨rfl, rfl⟩, 0, ⟨rfl, rfl⟩, Nat.le_refl _, 0, _, ⟨rfl, rfl⟩, 1, ⟨rfl, rfl⟩, by simp, 0, _, ⟨rfl, rfl⟩, 2, ⟨rfl, rfl⟩, by simp, _, ⟨rfl, rfl⟩, by simpa using q⟩
theorem len_product_sum : ∀ ds n Q, C_product_sum ds n Q → ds.length = 2 := fun ds n Q ⟨_, _, e, _⟩ => by rw [e]; rfl
theorem pf_product_sum : ∀ ds n Q, C_product_sum ds n Q → w_product_sum ⟨fun δ => Q .non δ.n, Q, fun _ => False, fun _ => False⟩ ⟨start3 N_product_sum ds, n⟩ := by
  rintro ds n Q ⟨r, o, rfl, hr, sr, so, q⟩
  let p := List.zipWith (fun x y => x * y) r o
  have lp : p.length ≤ 100 := by simp [p]; omega
  simp [w_product_sum, rowD]
  refine wLc_inv (fun i acc δ => δ = ⟨[some (.sh (rowD r)), some (.sh (rowD o)), none, none], n⟩ ∧ acc = (p.take i).map D.int) ⟨rfl, rfl⟩ ?_ ?_
  · rintro i d acc δ hd ⟨rfl, rfl⟩ N hN
    obtain ⟨x, y, hx, hy, rfl⟩ := zipD_get _ _ _ _ hd
    rw [List.getElem?_map] at hx hy
    obtain ⟨x, hx', rfl⟩ := Option.map_eq_some_iff.mp hx
    obtain ⟨y, hy', rfl⟩ := Option.map_eq_some_iff.mp hy
    have cm : CMulW x y := (sr x (List.mem_of_getElem? hx')).cmul (so y (List.mem_of_getElem? hy')) (by decide)
    have hm : p[i]? = some (x * y) := by simp only [p]; rw [List.getElem?_zipWith, hx', hy']
    simp [cm]
    refine ⟨by omega, hN _ _ ⟨rfl, ?_⟩⟩
    rw [List.take_add_one, hm]; simp
  · rintro acc δ ⟨rfl, rfl⟩
    have le : (zipD (r.map D.int) (o.map D.int)).length = p.length := by simp [zipD, p]
    rw [le, List.take_length]
    exact ⟨p, .inl rfl, q⟩
theorem len_is_integer : ∀ ds n Q, C_is_integer ds n Q → ds.length = 1 := fun ds n Q ⟨_, e, _⟩ => by rw [e]; rfl
theorem pf_is_integer : ∀ ds n Q, C_is_integer ds n Q → w_is_integer ⟨fun δ => Q .non δ.n, Q, fun _ => False, fun _ => False⟩ ⟨start3 N_is_integer ds, n⟩ := by
  rintro ds n Q ⟨i, rfl, q⟩
  simp [w_is_integer]
  exact q
/-- a list of truths -/
theorem all_rep (k : Nat) : ((List.replicate k true).all id) = true := by
  rw [List.all_eq_true]; intro x hx; rw [(List.mem_replicate.mp hx).2]; rfl
theorem rep_snoc (k : Nat) : (List.replicate k (D.bl true)) ++ [D.bl true] = List.replicate (k + 1) (D.bl true) := by
  rw [List.replicate_succ']
theorem len_is_move : ∀ ds n Q, C_is_move ds n Q → ds.length = 2 := fun ds n Q ⟨_, _, _, _, e, _⟩ => by rw [e]; rfl
theorem pf_is_move : ∀ ds n Q, C_is_move ds n Q → w_is_move ⟨fun δ => Q .non δ.n, Q, fun _ => False, fun _ => False⟩ ⟨start3 N_is_move ds, n⟩ := by
  rintro ds n Q ⟨nm, L, M, m, rfl, sy, ml, ⟨m1, m2, m3⟩, ms, q⟩
  simp [w_is_move, rowD, sysD]
  simp [m1]
  refine wLc_inv (fun i acc δ => acc = List.replicate i (D.bl true) ∧ δ = ⟨[some (.sh (sysD nm L M)), some (.sh (rowD m)), none, none, none, none], n⟩) ⟨rfl, rfl⟩ ?_ ?_
  · rintro i d acc δ hd ⟨rfl, rfl⟩ NN hNN
    have il := (List.getElem?_eq_some_iff.mp hd).1
    rw [List.length_map] at il
    rw [List.getElem?_map] at hd
    obtain ⟨x, hx, rfl⟩ := Option.map_eq_some_iff.mp hd
    simp
    exact ⟨x, rfl, by omega, hNN _ _ ⟨rep_snoc i, rfl⟩⟩
  · rintro acc δ ⟨rfl, rfl⟩
    simp
    refine ⟨List.replicate m.length true, by simp, ?_⟩
    simp [sysD]
    refine wLc_inv (fun i acc δ => acc = List.replicate i (D.bl true) ∧ δ = ⟨[some (.sh (sysD nm L M)), some (.sh (rowD m)), none, none, none, none], n⟩) ⟨rfl, rfl⟩ ?_ ?_
    · rintro i d acc δ hd ⟨rfl, rfl⟩ NN hNN
      have il := (List.getElem?_eq_some_iff.mp hd).1
      rw [List.length_map] at il
      have := sy.ll
      rw [List.getElem?_map] at hd
      obtain ⟨p, hp, rfl⟩ := Option.map_eq_some_iff.mp hd
      have pm := List.mem_of_getElem? hp
      simp [rowE]
      refine ⟨p.1, m, rfl, (sy.l p pm).1, (sy.l p pm).2, ms, ?_⟩
      rw [m2 p.1 (List.mem_map.mpr ⟨p, pm, rfl⟩)]
      simp
      exact ⟨by omega, hNN _ _ ⟨rep_snoc i, rfl⟩⟩
    · rintro acc δ ⟨rfl, rfl⟩
      simp
      refine ⟨List.replicate L.length true, by simp, ?_⟩
      simp [sysD]
      refine wLc_inv (fun i acc δ => acc = List.replicate i (D.bl true) ∧ δ = ⟨[some (.sh (sysD nm L M)), some (.sh (rowD m)), none, none, none, none], n⟩) ⟨rfl, rfl⟩ ?_ ?_
      · rintro i d acc δ hd ⟨rfl, rfl⟩ NN hNN
        have il := (List.getElem?_eq_some_iff.mp hd).1
        rw [List.length_map] at il
        have := sy.ml
        rw [List.getElem?_map] at hd
        obtain ⟨p, hp, rfl⟩ := Option.map_eq_some_iff.mp hd
        have pm := List.mem_of_getElem? hp
        obtain ⟨p1, p2, p3⟩ := sy.m p pm
        have m0 : ¬ p.2.2 = 0 := by omega
        simp [rstE]
        refine ⟨p.1, m, rfl, p1, p2, ms, ?_⟩
        simp [m0, fmod_pos (show 0 ≤ p.2.2 by omega), Int.emod_eq_zero_of_dvd (m3 (p.1, p.2.2) (List.mem_map.mpr ⟨p, pm, rfl⟩))]
        exact ⟨by omega, hNN _ _ ⟨rep_snoc i, rfl⟩⟩
      · rintro acc δ ⟨rfl, rfl⟩
        simp
        exact ⟨List.replicate M.length true, by simp, by rw [all_rep]; exact q⟩
theorem gt_lt {r : List Int} {j : Nat} (h : j < r.length) : gt r j = r[j] := by unfold gt; rw [List.getElem?_eq_getElem h]; rfl
theorem ent_at {mv : List (List Int)} {k j : Nat} {m : List Int} (hk : mv[k]? = some m) (hj : j < m.length) : L2.atI (m.map D.int) (j : Int) = some (.int (ent mv k j)) := by
  refine L2.atI_nat (j := j) ?_
  unfold ent
  rw [hk, Option.getD_some, gt_lt hj, List.getElem?_map, List.getElem?_eq_getElem hj]; rfl
theorem len_is_front : ∀ ds n Q, C_is_front ds n Q → ds.length = 4 := fun ds n Q ⟨_, _, _, _, e, _⟩ => by rw [e]; rfl
theorem pf_is_front : ∀ ds n Q, C_is_front ds n Q → w_is_front ⟨fun δ => Q .non δ.n, Q, fun _ => False, fun _ => False⟩ ⟨start3 N_is_front ds, n⟩ := by
  rintro ds n Q ⟨f, mv, j, k, rfl, ⟨h1, h2, h3⟩, hj, hl, q⟩
  simp [w_is_front]
  refine ⟨k, rfl, ?_⟩
  have hk : mv[k]? = some mv[k] := List.getElem?_eq_getElem h1
  have a1 : L2.atI (mv.map rowD) (k : Int) = some (rowD mv[k]) := L2.atI_nat (j := k) (by rw [List.getElem?_map, hk]; rfl)
  have a2 := ent_at hk (hj _ (List.getElem_mem h1))
  simp [h1, a1]
  simp [rowD, a2, h2, cut_to]
  rw [← List.map_take]
  refine ⟨fun h => absurd h1 (by omega), ?_⟩
  refine wLc_inv (fun i acc δ => acc = List.replicate i (D.bl true) ∧ δ = ⟨[some (.sh (.int f)), some (.sh (.tup (mv.map rowD))), some (.sh (.int j)), some (.sh (.int k)), none], n⟩) ⟨rfl, rfl⟩ ?_ ?_
  · rintro i d acc δ hd ⟨rfl, rfl⟩ NN hNN
    rw [List.getElem?_map] at hd
    obtain ⟨m, hm, rfl⟩ := Option.map_eq_some_iff.mp hd
    rw [List.getElem?_take] at hm
    split at hm
    · rename_i ik
      have a3 := ent_at hm (hj _ (List.mem_of_getElem? hm))
      simp [rowD, a3, h3 i ik]
      exact ⟨by omega, hNN _ _ ⟨rep_snoc i, rfl⟩⟩
    · cases hm
  · rintro acc δ ⟨rfl, rfl⟩
    simp
    exact ⟨List.replicate (min k mv.length) true, by simp, by rw [all_rep]; exact q⟩
theorem len_form_holds : ∀ ds n Q, C_form_holds ds n Q → ds.length = 2 := fun ds n Q ⟨_, _, _, _, e, _⟩ => by rw [e]; rfl
theorem pf_form_holds : ∀ ds n Q, C_form_holds ds n Q → w_form_holds ⟨fun δ => Q .non δ.n, Q, fun _ => False, fun _ => False⟩ ⟨start3 N_form_holds ds, n⟩ := by
  rintro ds n Q ⟨nm, L, M, F, rfl, sy, hn, ok, q⟩
  have f1 := ok.f1
  have m1 := ok.mv1
  have m12 := ok.mv12
  have fl := ok.frl
  simp [w_form_holds, Fm.d]
  refine ⟨F.f, rfl, ?_⟩
  simp [show ¬ F.f < 1 by omega]
  refine fun _ => ⟨fun _ => ⟨fun h => absurd h (by omega), fun _ => ?_⟩, fun h => absurd h (by omega)⟩
  simp [sysD, fl]
  refine wLc_inv (fun i acc δ => acc = List.replicate i (D.bl true) ∧ δ = ⟨[some (.sh (sysD nm L M)), some (.sh F.d), some (.sh (.int F.f)), some (.sh (.tup (F.fr.map D.int))), some (.sh (.tup (F.mv.map rowD))), none, none, none], n⟩) ⟨rfl, rfl⟩ ?_ ?_
  · rintro i d acc δ hd ⟨rfl, rfl⟩ NN hNN
    have il := (List.getElem?_eq_some_iff.mp hd).1
    rw [List.length_map] at il
    rw [List.getElem?_map] at hd
    obtain ⟨m, hm, rfl⟩ := Option.map_eq_some_iff.mp hd
    have mm := List.mem_of_getElem? hm
    simp
    exact ⟨nm, L, M, m, rfl, sy, by rw [(ok.mv m mm).1]; exact hn, ok.mv m mm, ok.sz m mm, by omega, hNN _ _ ⟨rep_snoc i, rfl⟩⟩
  · rintro acc δ ⟨rfl, rfl⟩
    simp
    refine ⟨List.replicate F.mv.length true, by simp, ?_⟩
    simp
    refine wLc_inv (fun i acc δ => acc = List.replicate i (D.bl true) ∧ δ = ⟨[some (.sh (sysD nm L M)), some (.sh F.d), some (.sh (.int F.f)), some (.sh (.tup (F.fr.map D.int))), some (.sh (.tup (F.mv.map rowD))), none, none, none], n⟩) ⟨rfl, rfl⟩ ?_ ?_
    · rintro i d acc δ hd ⟨rfl, rfl⟩ NN hNN
      have il := (List.getElem?_eq_some_iff.mp hd).1
      rw [enumD_len, List.length_map] at il
      rw [enumD_get, List.getElem?_map] at hd
      obtain ⟨d', hd', rfl⟩ := Option.map_eq_some_iff.mp hd
      obtain ⟨t, ht, rfl⟩ := Option.map_eq_some_iff.mp hd'
      obtain ⟨k, rfl, fr⟩ := ok.frt i t ht
      simp
      exact ⟨F.f, F.mv, i, k, by simp, fr, fun m mm => by rw [(ok.mv m mm).1]; omega, by omega, by omega, hNN _ _ ⟨rep_snoc i, rfl⟩⟩
    · rintro acc δ ⟨rfl, rfl⟩
      simp
      exact ⟨List.replicate F.fr.length true, by simp [enumD_len], by rw [all_rep]; exact q⟩
/-! sums by places -/
theorem sg_succ (N : Nat) (g : Nat → Int) : sg (N + 1) g = sg N g + g N := by
  unfold sg; rw [List.range_succ, List.map_append, List.sum_append]; simp
theorem sg_congr {N : Nat} {g h : Nat → Int} (e : ∀ j, j < N → g j = h j) : sg N g = sg N h := by
  induction N with
  | zero => rfl
  | succ N ih => rw [sg_succ, sg_succ, ih fun j hj => e j (by omega), e N (by omega)]
theorem sg_sub (N : Nat) (g h : Nat → Int) : sg N (fun j => g j - h j) = sg N g - sg N h := by
  induction N with
  | zero => rfl
  | succ N ih => rw [sg_succ, sg_succ, sg_succ, ih]; omega
theorem sg_add (N : Nat) (b : Int) (g h : Nat → Int) : sg N (fun j => g j + b * h j) = sg N g + b * sg N h := by
  induction N with
  | zero => show (0 : Int) = 0 + b * 0; omega
  | succ N ih => rw [sg_succ, sg_succ, sg_succ, ih, Int.mul_add]; omega
theorem sg_smul (N : Nat) (b : Int) (g : Nat → Int) : sg N (fun j => b * g j) = b * sg N g := by
  induction N with
  | zero => show (0 : Int) = b * 0; omega
  | succ N ih => rw [sg_succ, sg_succ, ih, Int.mul_add]
theorem sg_zero (N : Nat) : sg N (fun _ => 0) = 0 := by
  induction N with
  | zero => rfl
  | succ N ih => rw [sg_succ, ih]; rfl
theorem zip_range {α : Type} (f : Int → Int → α) {r o : List Int} {N : Nat} (h1 : r.length = N) (h2 : o.length = N) : List.zipWith f r o = (List.range N).map fun j => f (gt r j) (gt o j) := by
  apply List.ext_getElem?
  intro i
  rw [List.getElem?_zipWith, List.getElem?_map]
  by_cases h : i < N
  · rw [List.getElem?_range h, List.getElem?_eq_getElem (show i < r.length by omega), List.getElem?_eq_getElem (show i < o.length by omega)]
    simp [gt, List.getElem?_eq_getElem (show i < r.length by omega), List.getElem?_eq_getElem (show i < o.length by omega)]
  · rw [List.getElem?_eq_none (show r.length ≤ i by omega), List.getElem?_eq_none (show (List.range N).length ≤ i by simp; omega)]; rfl
theorem dot_sg {r o : List Int} {N : Nat} (h1 : r.length = N) (h2 : o.length = N) : dotL r o = sg N fun j => gt r j * gt o j := by
  unfold dotL sg; rw [zip_range _ h1 h2]
theorem gt_zip {f : Int → Int → Int} {r o : List Int} {N j : Nat} (h1 : r.length = N) (h2 : o.length = N) (hj : j < N) : gt (List.zipWith f r o) j = f (gt r j) (gt o j) := by
  unfold gt
  rw [List.getElem?_zipWith, List.getElem?_eq_getElem (show j < r.length by omega), List.getElem?_eq_getElem (show j < o.length by omega)]; rfl
theorem gt_map {f : Int → Int} {r : List Int} {j : Nat} (hj : j < r.length) : gt (r.map f) j = f (gt r j) := by
  unfold gt
  rw [List.getElem?_map, List.getElem?_eq_getElem hj]; rfl
theorem gt_set {r : List Int} {i : Nat} {v : Int} (hi : i < r.length) (j : Nat) : gt (r.set i v) j = if i = j then v else gt r j := by
  unfold gt
  rw [List.getElem?_set]
  split
  · rename_i e; subst e; first | rfl | (rw [if_pos hi]; rfl)
  · rfl
theorem gt_mem {r : List Int} {j : Nat} (hj : j < r.length) : gt r j ∈ r := by rw [gt_lt hj]; exact List.getElem_mem hj
theorem mem_gt {r : List Int} {x : Int} (h : x ∈ r) : ∃ j, j < r.length ∧ gt r j = x := by
  obtain ⟨j, hj, e⟩ := List.getElem_of_mem h
  exact ⟨j, hj, by rw [gt_lt hj]; exact e⟩
theorem filter_sg (N : Nat) (p : Nat → Bool) (g : Nat → Int) : (((List.range N).filter p).map g).sum = sg N fun j => if p j = true then g j else 0 := by
  induction N with
  | zero => rfl
  | succ N ih =>
    rw [List.range_succ, List.filter_append, List.map_append, List.sum_append, ih, sg_succ]
    cases h : p N <;> simp [h]
theorem dot_add {r a c : List Int} {b : Int} {N : Nat} (h1 : r.length = N) (h2 : a.length = N) (h3 : c.length = N) : dotL r (List.zipWith (fun x y => x + b * y) a c) = dotL r a + b * dotL r c := by
  rw [dot_sg h1 (by rw [List.length_zipWith]; omega), dot_sg h1 h2, dot_sg h1 h3, ← sg_add]
  refine sg_congr fun j hj => ?_
  rw [gt_zip h2 h3 hj, Int.mul_add, Int.mul_left_comm]
theorem dot_smul {r a : List Int} {b : Int} {N : Nat} (h1 : r.length = N) (h2 : a.length = N) : dotL r (a.map fun x => b * x) = b * dotL r a := by
  rw [dot_sg h1 (by simpa using h2), dot_sg h1 h2, ← sg_smul]
  refine sg_congr fun j hj => ?_
  rw [gt_map (by omega), Int.mul_left_comm]
theorem dot_zero {r : List Int} {N : Nat} (h1 : r.length = N) : dotL r (List.replicate N 0) = 0 := by
  rw [dot_sg h1 (by simp)]
  refine (sg_congr (h := fun _ => 0) fun j hj => ?_).trans (sg_zero N)
  rw [show gt (List.replicate N 0) j = 0 by unfold gt; rw [List.getElem?_replicate, if_pos hj]; rfl, Int.mul_zero]
/-! classes of places: the sum of a class is its mix -/
theorem eqk_dot {N : Nat} {wh m r : List Int} {k : Int} (h1 : wh.length = N) (h2 : m.length = N) (h3 : r.length = N) (e : Eqk N wh m r k) : dotL r (mvk wh m k) = 0 := by
  unfold mvk
  rw [dot_sg h3 (by rw [List.length_zipWith]; omega)]
  have : (sg N fun j => gt r j * gt (List.zipWith (fun w x => (if w = k then 1 else 0) - x) wh m) j) = sg N fun j => (if gt wh j = k then gt r j else 0) - gt m j * gt r j := sg_congr fun j hj => by
    rw [gt_zip h1 h2 hj]
    split
    · rw [Int.mul_sub, Int.mul_one, Int.mul_comm (gt r j)]
    · rw [Int.mul_sub, Int.mul_zero, Int.mul_comm (gt r j)]
  rw [this, sg_sub]
  unfold Eqk at e
  omega
/-- the places of a class -/
def ownK (N : Nat) (wh : List Int) (k : Int) : List Nat := (List.range N).filter fun j => decide (gt wh j = k)
theorem own_lt {N : Nat} {wh : List Int} {k : Int} {j : Nat} (h : j ∈ ownK N wh k) : j < N ∧ gt wh j = k := by
  unfold ownK at h
  rw [List.mem_filter] at h
  exact ⟨List.mem_range.mp h.1, of_decide_eq_true h.2⟩
theorem own_nodup (N : Nat) (wh : List Int) (k : Int) : (ownK N wh k).Nodup := List.Pairwise.filter _ List.nodup_range
theorem eqk_keep {N : Nat} {wh m r : List Int} {k k' : Int} {jl : Nat} {v : Int} (h3 : r.length = N) (hj : jl < N) (hk : gt wh jl = k) (ne : k' ≠ k) (mz : gt m jl = 0) (e : Eqk N wh m r k') : Eqk N wh m (r.set jl v) k' := by
  unfold Eqk at e ⊢
  have a : (sg N fun j => if gt wh j = k' then gt (r.set jl v) j else 0) = sg N fun j => if gt wh j = k' then gt r j else 0 := sg_congr fun j _ => by
    rw [gt_set (by omega)]
    by_cases q : jl = j
    · subst q; rw [if_neg (by omega), if_neg (by omega)]
    · rw [if_neg q]
  have b : (sg N fun j => gt m j * gt (r.set jl v) j) = sg N fun j => gt m j * gt r j := sg_congr fun j _ => by
    rw [gt_set (by omega)]
    by_cases q : jl = j
    · subst q; rw [mz]; omega
    · rw [if_neg q]
  rw [a, b, e]
theorem eqk_new {N : Nat} {wh m r : List Int} {k : Int} (h2 : m.length = N) (h3 : r.length = N) {own : List Nat} {jl : Nat} (ho : ownK N wh k = own ++ [jl]) (mz : gt m jl = 0) : Eqk N wh m (r.set jl (dotL m r - (own.map (gt r)).sum)) k := by
  have hj := own_lt (N := N) (wh := wh) (k := k) (j := jl) (by rw [ho]; simp)
  have nd := own_nodup N wh k
  rw [ho] at nd
  have out : ∀ j ∈ own, jl ≠ j := fun j hj e => by
    subst e
    exact (List.nodup_append.mp nd).2.2 jl hj jl (by simp) rfl
  unfold Eqk
  have a := filter_sg N (fun j => decide (gt wh j = k)) (gt (r.set jl (dotL m r - (own.map (gt r)).sum)))
  rw [show (List.range N).filter (fun j => decide (gt wh j = k)) = ownK N wh k from rfl, ho] at a
  simp only [decide_eq_true_eq] at a
  rw [← a]
  have b : (sg N fun j => gt m j * gt (r.set jl (dotL m r - (own.map (gt r)).sum)) j) = sg N fun j => gt m j * gt r j := sg_congr fun j _ => by
    rw [gt_set (by omega)]
    by_cases q : jl = j
    · subst q; rw [mz]; omega
    · rw [if_neg q]
  rw [b, ← dot_sg h2 h3, List.map_append, List.sum_append]
  have c : own.map (gt (r.set jl (dotL m r - (own.map (gt r)).sum))) = own.map (gt r) := List.map_congr_left fun j hj' => by
    rw [gt_set (by omega), if_neg (out j hj')]
  rw [c]
  simp [gt_set (r := r) (i := jl) (show jl < r.length by omega)]
  omega
theorem seqIx {x : Int} {len : Nat} (h0 : 0 ≤ x) (h1 : x < len) : seqIndex? x len = some x.toNat := by
  unfold seqIndex?
  rw [if_neg (show ¬ x < 0 by omega)]
  simp [h0, h1]
theorem erase_map {α β : Type} (f : α → β) : ∀ (l : List α) (i : Nat), (l.map f).eraseIdx i = (l.eraseIdx i).map f
  | [], _ => rfl
  | _ :: _, 0 => rfl
  | a :: l, i + 1 => by
    show f a :: (l.map f).eraseIdx i = f a :: (l.eraseIdx i).map f
    rw [erase_map f l i]
theorem len_l_called : ∀ ds n Q, C_l_called ds n Q → ds.length = 2 := fun ds n Q ⟨_, e, _⟩ => by rw [e]; rfl
theorem pf_l_called : ∀ ds n Q, C_l_called ds n Q → w_l_called ⟨fun δ => Q .non δ.n, Q, fun _ => False, fun _ => False⟩ ⟨start3 N_l_called ds, n⟩ := by
  rintro ds n Q ⟨N, rfl, n5, hn, q⟩
  have sp : Txt.split "x y z a1 bb q zz9 n0 abcdefgh k it u7 w" " " = (["x", "y", "z", "a1", "bb", "q", "zz9", "n0", "abcdefgh", "k", "it", "u7", "w"] : List Str) := by decide +kernel
  have pk : ∀ x ∈ (["x", "y", "z", "a1", "bb", "q", "zz9", "n0", "abcdefgh", "k", "it", "u7", "w"] : List Str), OkS 8 x := fun x hx => by
    have h : ((["x", "y", "z", "a1", "bb", "q", "zz9", "n0", "abcdefgh", "k", "it", "u7", "w"] : List Str).all fun x => decide (x.length ≤ 8) && (x.cps.toList.all fun c => decide (c < 0x110000))) = true := by decide +kernel
    have h := List.all_eq_true.mp h x hx
    rw [Bool.and_eq_true] at h
    exact OkS.of h.1 h.2
  simp [w_l_called]
  rw [sp]
  refine ⟨by decide, by decide, by omega, ?_⟩
  refine wLc_inv (fun i acc δ => ∃ (pool xs : List Str) (n' : Nat), pool.length = 13 - i ∧ acc = xs.map D.str ∧ xs.length = i ∧ (∀ x ∈ pool, OkS 8 x) ∧ (∀ x ∈ xs, OkS 8 x) ∧ n' ≤ n + i ∧ δ = ⟨[some (.sh .deck), some (.sh (.int N)), some (.ow (.lst (pool.map D.str))), none], n'⟩) ⟨_, [], n, by simp, rfl, rfl, pk, by simp, by omega, rfl⟩ ?_ ?_
  · rintro i d acc δ hd ⟨pool, xs, n', hl, rfl, ha, hp, hx8, hn', rfl⟩ NN hNN
    obtain ⟨hi, rfl⟩ := rng_get hd
    simp
    refine draw_le (by omega) ((sz_len (k := 10) (by omega)).mono (by decide)) (by omega) fun x x0 x1 => ?_
    have hx : x.toNat < pool.length := by omega
    refine ⟨x, rfl, by omega, by omega, x.toNat, seqIx x0 x1, D.str pool[x.toNat], ⟨_, List.getElem?_eq_getElem hx, rfl⟩, by omega, hNN _ _ ⟨pool.eraseIdx x.toNat, xs ++ [pool[x.toNat]], n' + 1, ?_, by simp, by simp [ha], fun y hy => hp y (List.mem_of_mem_eraseIdx hy), fun y hy => ?_, by omega, ?_⟩⟩
    · rw [List.length_eraseIdx, if_pos hx]; omega
    · rcases List.mem_append.mp hy with z | z
      · exact hx8 y z
      · rw [List.mem_singleton.mp z]; exact hp _ (List.getElem_mem hx)
    · rw [erase_map]
  · rintro acc δ ⟨pool, xs, n', hl, rfl, ha, hp, hx8, hn', rfl⟩
    rw [rng_len] at ha hn'
    simp
    exact q xs n' (by omega) hx8 (by omega)
theorem len_l_dot : ∀ ds n Q, C_l_dot ds n Q → ds.length = 2 := fun ds n Q ⟨_, _, _, _, e, _⟩ => by rw [e]; rfl
theorem pf_l_dot : ∀ ds n Q, C_l_dot ds n Q → w_l_dot ⟨fun δ => Q .non δ.n, Q, fun _ => False, fun _ => False⟩ ⟨start3 N_l_dot ds, n⟩ := by
  rintro ds n Q ⟨r, o, a, b, rfl, ha, hb, hr, sr, so, q⟩
  let p := List.zipWith (fun x y => x * y) r o
  have lp : p.length ≤ 100 := by simp [p]; omega
  have go : wLcGo (gTup3 2 (gCons3 (gN 2) (gCons3 (gN 3) gNil3))) wYes (wOp fMulB (wVar 2) (wVar 3)) [2, 3] (fun acc δ2 => fSumB [D.lst acc] fun q => Q q.d δ2.n) (zipD (r.map D.int) (o.map D.int)) [] ⟨[some (.sh a), some (.sh b), none, none], n⟩ := by
    refine wLc_inv (fun i acc δ => δ = ⟨[some (.sh a), some (.sh b), none, none], n⟩ ∧ acc = (p.take i).map D.int) ⟨rfl, rfl⟩ ?_ ?_
    · rintro i d acc δ hd ⟨rfl, rfl⟩ N hN
      obtain ⟨x, y, hx, hy, rfl⟩ := zipD_get _ _ _ _ hd
      rw [List.getElem?_map] at hx hy
      obtain ⟨x, hx', rfl⟩ := Option.map_eq_some_iff.mp hx
      obtain ⟨y, hy', rfl⟩ := Option.map_eq_some_iff.mp hy
      have cm : CMulW x y := (sr x (List.mem_of_getElem? hx')).cmul (so y (List.mem_of_getElem? hy')) (by decide)
      have hm : p[i]? = some (x * y) := by simp only [p]; rw [List.getElem?_zipWith, hx', hy']
      simp [cm]
      refine ⟨by omega, hN _ _ ⟨rfl, ?_⟩⟩
      rw [List.take_add_one, hm]; simp
    · rintro acc δ ⟨rfl, rfl⟩
      have le : (zipD (r.map D.int) (o.map D.int)).length = p.length := by simp [zipD, p]
      rw [le, List.take_length]
      exact ⟨p, .inl rfl, q⟩
  rcases ha with rfl | rfl <;> rcases hb with rfl | rfl <;> (simp [w_l_dot, rowD, rowL] at go ⊢; exact go)
def tk_planted : WS :=
  (wSeq (wAsg 13 (wLc (wRng1 (wCons (wVar 1) wNil)) (gN 4) (wTest (wOp (fEq false) (wOp fIx (wVar 6) (wVar 4)) (wVar 9))) (wVar 4) [4]))
    (wSetIx 11 (wOp fSub (wCallF C_l_dot [] (wCons (wVar 12) (wCons (wVar 11) wNil))) (wCB fSumB (wCons (wLc (wItems asS (wSl (wVar 13) wNoP (wP (wUn fNeg (wC (.int 1)))))) (gN 4) wYes (wOp fIx (wVar 11) (wVar 4)) [4]) wNil))) (wOp fIx (wVar 13) (wUn fNeg (wC (.int 1))))))
def tb_planted : WS :=
  (wSeq (wFor (wEnum (wCons (wVar 7) wNil)) (gTup3 2 (gCons3 (gN 9) (gCons3 (gN 12) gNil3))) (wSeq (wAsg 13 (wLc (wRng1 (wCons (wVar 1) wNil)) (gN 4) (wTest (wOp (fEq false) (wOp fIx (wVar 6) (wVar 4)) (wVar 9))) (wVar 4) [4]))
    (wSetIx 11 (wOp fSub (wCallF C_l_dot [] (wCons (wVar 12) (wCons (wVar 11) wNil))) (wCB fSumB (wCons (wLc (wItems asS (wSl (wVar 13) wNoP (wP (wUn fNeg (wC (.int 1)))))) (gN 4) wYes (wOp fIx (wVar 11) (wVar 4)) [4]) wNil))) (wOp fIx (wVar 13) (wUn fNeg (wC (.int 1)))))))
    (wFreeA 11 (wAppend 8 (wIf (wTest (wOp fLt (wCB fMax (wCons (wLc (wItems asS (wVar 11)) (gN 14) wYes (wCB fAbs (wCons (wVar 14) wNil)) [14]) wNil)) (wC (.int 10)))) (wCB fTuple (wCons (wVar 11) wNil)) (wOp fMulB (wTup (wCons (wC (.int 0)) wNil)) (wVar 1))))))
def t5_l_planted : WS :=
  (wFreeA 7 (wFreeA 8 (wRet (wDisp [((wC (.str "where")), (wVar 6)), ((wC (.str "mixes")), (wVar 7)), ((wC (.str "lots")), (wVar 8))]))))
def t4_l_planted : WS :=
  (wSeq (wFor (wRng1 (wCons (wVar 2) wNil)) (gN 10) (wSeq (wAsgO 11 (wLc (wRng1 (wCons (wVar 1) wNil)) (gN 4) wYes (wOp fSub (wCall C_l_draw [] (wCons (wVar 0) (wCons (wC (.int 5)) wNil))) (wC (.int 2))) [4]))
    (wFreeA 7 (wSeq (wFor (wEnum (wCons (wVar 7) wNil)) (gTup3 2 (gCons3 (gN 9) (gCons3 (gN 12) gNil3))) (wSeq (wAsg 13 (wLc (wRng1 (wCons (wVar 1) wNil)) (gN 4) (wTest (wOp (fEq false) (wOp fIx (wVar 6) (wVar 4)) (wVar 9))) (wVar 4) [4]))
    (wSetIx 11 (wOp fSub (wCallF C_l_dot [] (wCons (wVar 12) (wCons (wVar 11) wNil))) (wCB fSumB (wCons (wLc (wItems asS (wSl (wVar 13) wNoP (wP (wUn fNeg (wC (.int 1)))))) (gN 4) wYes (wOp fIx (wVar 11) (wVar 4)) [4]) wNil))) (wOp fIx (wVar 13) (wUn fNeg (wC (.int 1)))))))
    (wFreeA 11 (wAppend 8 (wIf (wTest (wOp fLt (wCB fMax (wCons (wLc (wItems asS (wVar 11)) (gN 14) wYes (wCB fAbs (wCons (wVar 14) wNil)) [14]) wNil)) (wC (.int 10)))) (wCB fTuple (wCons (wVar 11) wNil)) (wOp fMulB (wTup (wCons (wC (.int 0)) wNil)) (wVar 1)))))))))
    (wFreeA 7 (wFreeA 8 (wRet (wDisp [((wC (.str "where")), (wVar 6)), ((wC (.str "mixes")), (wVar 7)), ((wC (.str "lots")), (wVar 8))])))))
def t3_l_planted : WS :=
  (wSeq (wFor (wRng1 (wCons (wCB fLen (wCons (wVar 5) wNil)) wNil)) (gN 9) (wAppend 7 (wLc (wRng1 (wCons (wVar 1) wNil)) (gN 4) wYes (wIf (wTest (wOp fLt (wOp fIx (wVar 6) (wVar 4)) (wVar 9))) (wOp fSub (wCall C_l_draw [] (wCons (wVar 0) (wCons (wC (.int 3)) wNil))) (wC (.int 1))) (wC (.int 0))) [4])))
    (wSeq (wFor (wRng1 (wCons (wVar 2) wNil)) (gN 10) (wSeq (wAsgO 11 (wLc (wRng1 (wCons (wVar 1) wNil)) (gN 4) wYes (wOp fSub (wCall C_l_draw [] (wCons (wVar 0) (wCons (wC (.int 5)) wNil))) (wC (.int 2))) [4]))
    (wFreeA 7 (wSeq (wFor (wEnum (wCons (wVar 7) wNil)) (gTup3 2 (gCons3 (gN 9) (gCons3 (gN 12) gNil3))) (wSeq (wAsg 13 (wLc (wRng1 (wCons (wVar 1) wNil)) (gN 4) (wTest (wOp (fEq false) (wOp fIx (wVar 6) (wVar 4)) (wVar 9))) (wVar 4) [4]))
    (wSetIx 11 (wOp fSub (wCallF C_l_dot [] (wCons (wVar 12) (wCons (wVar 11) wNil))) (wCB fSumB (wCons (wLc (wItems asS (wSl (wVar 13) wNoP (wP (wUn fNeg (wC (.int 1)))))) (gN 4) wYes (wOp fIx (wVar 11) (wVar 4)) [4]) wNil))) (wOp fIx (wVar 13) (wUn fNeg (wC (.int 1)))))))
    (wFreeA 11 (wAppend 8 (wIf (wTest (wOp fLt (wCB fMax (wCons (wLc (wItems asS (wVar 11)) (gN 14) wYes (wCB fAbs (wCons (wVar 14) wNil)) [14]) wNil)) (wC (.int 10)))) (wCB fTuple (wCons (wVar 11) wNil)) (wOp fMulB (wTup (wCons (wC (.int 0)) wNil)) (wVar 1)))))))))
    (wFreeA 7 (wFreeA 8 (wRet (wDisp [((wC (.str "where")), (wVar 6)), ((wC (.str "mixes")), (wVar 7)), ((wC (.str "lots")), (wVar 8))]))))))
def t2_l_planted : WS :=
  (wSeq (wPar3 6 false 7 true 8 true (wLc (wItems asS (wVar 3)) (gN 4) wYes (wL1 fIdxL (wVar 5) (wVar 4)) [4]) (wLst wNil) (wLst wNil))
    (wSeq (wFor (wRng1 (wCons (wCB fLen (wCons (wVar 5) wNil)) wNil)) (gN 9) (wAppend 7 (wLc (wRng1 (wCons (wVar 1) wNil)) (gN 4) wYes (wIf (wTest (wOp fLt (wOp fIx (wVar 6) (wVar 4)) (wVar 9))) (wOp fSub (wCall C_l_draw [] (wCons (wVar 0) (wCons (wC (.int 3)) wNil))) (wC (.int 1))) (wC (.int 0))) [4])))
    (wSeq (wFor (wRng1 (wCons (wVar 2) wNil)) (gN 10) (wSeq (wAsgO 11 (wLc (wRng1 (wCons (wVar 1) wNil)) (gN 4) wYes (wOp fSub (wCall C_l_draw [] (wCons (wVar 0) (wCons (wC (.int 5)) wNil))) (wC (.int 2))) [4]))
    (wFreeA 7 (wSeq (wFor (wEnum (wCons (wVar 7) wNil)) (gTup3 2 (gCons3 (gN 9) (gCons3 (gN 12) gNil3))) (wSeq (wAsg 13 (wLc (wRng1 (wCons (wVar 1) wNil)) (gN 4) (wTest (wOp (fEq false) (wOp fIx (wVar 6) (wVar 4)) (wVar 9))) (wVar 4) [4]))
    (wSetIx 11 (wOp fSub (wCallF C_l_dot [] (wCons (wVar 12) (wCons (wVar 11) wNil))) (wCB fSumB (wCons (wLc (wItems asS (wSl (wVar 13) wNoP (wP (wUn fNeg (wC (.int 1)))))) (gN 4) wYes (wOp fIx (wVar 11) (wVar 4)) [4]) wNil))) (wOp fIx (wVar 13) (wUn fNeg (wC (.int 1)))))))
    (wFreeA 11 (wAppend 8 (wIf (wTest (wOp fLt (wCB fMax (wCons (wLc (wItems asS (wVar 11)) (gN 14) wYes (wCB fAbs (wCons (wVar 14) wNil)) [14]) wNil)) (wC (.int 10)))) (wCB fTuple (wCons (wVar 11) wNil)) (wOp fMulB (wTup (wCons (wC (.int 0)) wNil)) (wVar 1)))))))))
    (wFreeA 7 (wFreeA 8 (wRet (wDisp [((wC (.str "where")), (wVar 6)), ((wC (.str "mixes")), (wVar 7)), ((wC (.str "lots")), (wVar 8))])))))))
def t1_l_planted : WS :=
  (wSeq (wAsg 5 (wSortSet (wVar 3)))
    (wSeq (wPar3 6 false 7 true 8 true (wLc (wItems asS (wVar 3)) (gN 4) wYes (wL1 fIdxL (wVar 5) (wVar 4)) [4]) (wLst wNil) (wLst wNil))
    (wSeq (wFor (wRng1 (wCons (wCB fLen (wCons (wVar 5) wNil)) wNil)) (gN 9) (wAppend 7 (wLc (wRng1 (wCons (wVar 1) wNil)) (gN 4) wYes (wIf (wTest (wOp fLt (wOp fIx (wVar 6) (wVar 4)) (wVar 9))) (wOp fSub (wCall C_l_draw [] (wCons (wVar 0) (wCons (wC (.int 3)) wNil))) (wC (.int 1))) (wC (.int 0))) [4])))
    (wSeq (wFor (wRng1 (wCons (wVar 2) wNil)) (gN 10) (wSeq (wAsgO 11 (wLc (wRng1 (wCons (wVar 1) wNil)) (gN 4) wYes (wOp fSub (wCall C_l_draw [] (wCons (wVar 0) (wCons (wC (.int 5)) wNil))) (wC (.int 2))) [4]))
    (wFreeA 7 (wSeq (wFor (wEnum (wCons (wVar 7) wNil)) (gTup3 2 (gCons3 (gN 9) (gCons3 (gN 12) gNil3))) (wSeq (wAsg 13 (wLc (wRng1 (wCons (wVar 1) wNil)) (gN 4) (wTest (wOp (fEq false) (wOp fIx (wVar 6) (wVar 4)) (wVar 9))) (wVar 4) [4]))
    (wSetIx 11 (wOp fSub (wCallF C_l_dot [] (wCons (wVar 12) (wCons (wVar 11) wNil))) (wCB fSumB (wCons (wLc (wItems asS (wSl (wVar 13) wNoP (wP (wUn fNeg (wC (.int 1)))))) (gN 4) wYes (wOp fIx (wVar 11) (wVar 4)) [4]) wNil))) (wOp fIx (wVar 13) (wUn fNeg (wC (.int 1)))))))
    (wFreeA 11 (wAppend 8 (wIf (wTest (wOp fLt (wCB fMax (wCons (wLc (wItems asS (wVar 11)) (gN 14) wYes (wCB fAbs (wCons (wVar 14) wNil)) [14]) wNil)) (wC (.int 10)))) (wCB fTuple (wCons (wVar 11) wNil)) (wOp fMulB (wTup (wCons (wC (.int 0)) wNil)) (wVar 1)))))))))
    (wFreeA 7 (wFreeA 8 (wRet (wDisp [((wC (.str "where")), (wVar 6)), ((wC (.str "mixes")), (wVar 7)), ((wC (.str "lots")), (wVar 8))]))))))))
theorem gt_at {r : List Int} {j : Nat} (h : j < r.length) : L2.atI (r.map D.int) (j : Int) = some (.int (gt r j)) := L2.atI_nat (j := j) (by rw [List.getElem?_map, gt_lt h, List.getElem?_eq_getElem h]; rfl)
theorem cut_init (ds : List D) (d : D) : L3.cutD (ds ++ [d]) none (some (-1)) = ds := by
  have e : HT.sIx (ds ++ [d]).length (ds ++ [d]).length (some (-1)) = ds.length := by
    show (if (-1 : Int) < 0 then ((-1 : Int) + ((ds ++ [d]).length : Int)).toNat else min (-1 : Int).toNat (ds ++ [d]).length) = _
    rw [if_pos (by decide)]
    simp; omega
  unfold L3.cutD
  rw [HT.sIx_none, List.drop_zero, Nat.sub_zero, e, List.take_append_of_le_length (Nat.le_refl _), List.take_of_length_le (Nat.le_refl _)]
theorem sum_le {B : Nat} : ∀ {xs : List Int}, (∀ x ∈ xs, x.natAbs ≤ B) → xs.sum.natAbs ≤ xs.length * B
  | [], _ => by simp
  | x :: xs, h => by
    have a := h x List.mem_cons_self
    have b := sum_le (xs := xs) fun y hy => h y (List.mem_cons_of_mem _ hy)
    rw [List.sum_cons, List.length_cons, Nat.succ_mul]
    omega
theorem sg_le {N B : Nat} {g : Nat → Int} (h : ∀ j, j < N → (g j).natAbs ≤ B) : (sg N g).natAbs ≤ N * B := by
  have := sum_le (B := B) (xs := (List.range N).map g) fun x hx => by
    obtain ⟨j, hj, rfl⟩ := List.mem_map.mp hx
    exact h j (List.mem_range.mp hj)
  simpa [sg] using this
theorem own_snoc (i : Nat) (wh : List Int) (k : Int) : ownK (i + 1) wh k = ownK i wh k ++ (if gt wh i = k then [i] else []) := by
  unfold ownK
  rw [List.range_succ, List.filter_append]
  by_cases h : gt wh i = k <;> simp [h]
theorem own_len (N : Nat) (wh : List Int) (k : Int) : (ownK N wh k).length ≤ N := by
  unfold ownK
  exact Nat.le_trans (List.length_filter_le _ _) (by simp)
theorem pk_planted {De : Ends3} {N B : Nat} {wh so m : List Int} {k : Int} {own : List Nat} {jl n : Nat} {s2 s3 s5 s7 s8 s10 s13 : Option SV} (n6 : N ≤ 6) (hw : wh.length = N) (hs : so.length = N) (hm : m.length = N) (hB : B ≤ 10000000)
    (bs : ∀ x ∈ so, x.natAbs ≤ B) (bm : ∀ x ∈ m, x.natAbs ≤ 1) (ho : ownK N wh k = own ++ [jl])
    (q : De.nx ⟨[some (.sh .deck), some (.sh (.int N)), s2, s3, none, s5, some (.sh (rowL wh)), s7, s8, some (.sh (.int k)), s10, some (.ow (rowL (so.set jl (dotL m so - (own.map (gt so)).sum)))), some (.sh (rowL m)), some (.sh (.lst ((ownK N wh k).map fun j : Nat => D.int j))), none], n⟩) :
    tk_planted De ⟨[some (.sh .deck), some (.sh (.int N)), s2, s3, none, s5, some (.sh (rowL wh)), s7, s8, some (.sh (.int k)), s10, some (.ow (rowL so)), some (.sh (rowL m)), s13, none], n⟩ := by
  have jN : jl < N := (own_lt (N := N) (wh := wh) (k := k) (by rw [ho]; simp)).1
  have oN : ∀ j ∈ own, j < N := fun j hj => (own_lt (N := N) (wh := wh) (k := k) (by rw [ho]; simp [hj])).1
  have ol : own.length ≤ N := by
    have := own_len N wh k
    rw [ho] at this
    simp at this; omega
  simp [tk_planted]
  refine ⟨by omega, ?_⟩
  refine wLc_inv (fun i acc δ => acc = (ownK i wh k).map (fun j : Nat => D.int j) ∧ δ = ⟨[some (.sh .deck), some (.sh (.int N)), s2, s3, none, s5, some (.sh (rowL wh)), s7, s8, some (.sh (.int k)), s10, some (.ow (rowL so)), some (.sh (rowL m)), s13, none], n⟩) ⟨rfl, rfl⟩ ?_ ?_
  · rintro i d acc δ hd ⟨rfl, rfl⟩ NN hNN
    obtain ⟨hi, rfl⟩ := rng_get hd
    have a := gt_at (r := wh) (j := i) (by omega)
    have ll := own_len i wh k
    rw [own_snoc] at hNN
    simp [rowL, a]
    refine ⟨fun h => ⟨by omega, hNN _ _ ⟨by simp [h], by simp [rowL]⟩⟩, fun h => hNN _ _ ⟨by simp [h], by simp [rowL]⟩⟩
  · rintro acc δ ⟨rfl, rfl⟩
    rw [rng_len]
    rw [ho] at q ⊢
    simp at q ⊢
    have szs : ∀ x ∈ so, Sz 400 x := fun x hx => (Sz.of (k := 30) (by have := bs x hx; omega) (by have := bs x hx; omega)).mono (by decide)
    have szm : ∀ x ∈ m, Sz 400 x := fun x hx => (Sz.of (k := 30) (by have := bm x hx; omega) (by have := bm x hx; omega)).mono (by decide)
    refine ⟨m, so, _, _, rfl, .inl rfl, .inl rfl, by omega, szm, szs, rfl, ?_⟩
    rw [cut_init]
    refine wLc_inv (fun i acc δ => acc = ((own.take i).map (gt so)).map D.int ∧ δ = ⟨[some (.sh .deck), some (.sh (.int N)), s2, s3, none, s5, some (.sh (rowL wh)), s7, s8, some (.sh (.int k)), s10, some (.ow (rowL so)), some (.sh (rowL m)), some (.sh (.lst (own.map (fun j : Nat => D.int j) ++ [D.int jl]))), none], n⟩) ⟨rfl, rfl⟩ ?_ ?_
    · rintro i d acc δ hd ⟨rfl, rfl⟩ NN hNN
      rw [List.getElem?_map] at hd
      obtain ⟨j, hj, rfl⟩ := Option.map_eq_some_iff.mp hd
      have il := (List.getElem?_eq_some_iff.mp hj).1
      have a := gt_at (r := so) (j := j) (by have := oN j (List.mem_of_getElem? hj); omega)
      simp [rowL, a]
      refine ⟨by omega, hNN _ _ ⟨?_, by simp [rowL]⟩⟩
      rw [List.take_add_one, hj]; simp
    · rintro acc δ ⟨rfl, rfl⟩
      rw [List.length_map, List.take_length]
      simp
      refine ⟨own.map (gt so), by simp, ?_⟩
      have e1 := atI_snoc (D.int jl) (own.map fun j : Nat => D.int j)
      have e2 : ixN so.length (jl : Int) = some jl := by unfold L2.ixN; rw [if_pos (by omega), if_pos (by omega)]; simp
      simp [rowL, e1, e2] at q ⊢
      exact q

theorem mx_at {mx : List (List Int)} {k : Nat} (h : k < mx.length) : (mx[k]?).getD [] = mx[k] ∧ mx[k]? = some mx[k] := by rw [List.getElem?_eq_getElem h]; exact ⟨rfl, rfl⟩
theorem abs_i (c : Int) : (if c < 0 then -c else c) = (c.natAbs : Int) := by split <;> omega
theorem rep1 (k : Nat) : (List.replicate k [D.int 0]).flatten = (List.replicate k (0 : Int)).map D.int := by
  induction k with
  | zero => rfl
  | succ k ih => rw [List.replicate_succ, List.flatten_cons, ih]; rfl
def bd (i : Nat) : Nat := 2 * 12 ^ i
theorem bd_le : ∀ i, i ≤ 6 → bd i ≤ 10000000 := by decide
theorem bd_succ (i : Nat) : bd (i + 1) = 12 * bd i := by unfold bd; rw [Nat.pow_succ]; omega
theorem zeros_lot {N : Nat} {wh : List Int} {mx : List (List Int)} : Lot N wh mx (List.replicate N 0) := by
  have z : ∀ j, gt (List.replicate N 0) j = 0 := fun j => by unfold gt; rw [List.getElem?_replicate]; split <;> rfl
  refine ⟨by simp, fun x hx => by rw [(List.mem_replicate.mp hx).2]; decide, fun k hk => ?_⟩
  unfold Eqk
  rw [sg_congr (h := fun _ => 0) fun j _ => by rw [z]; simp, sg_congr (g := fun j => gt ((mx[k]?).getD []) j * gt (List.replicate N 0) j) (h := fun _ => 0) fun j _ => by rw [z]; simp]
theorem pb_planted {De : Ends3} {N : Nat} {wh so : List Int} {mx lots : List (List Int)} {n : Nat} {s2 s3 s5 s9 s10 s12 s13 : Option SV} (n1 : 1 ≤ N) (n6 : N ≤ 6) (pn : Pn N wh mx) (hit : ∀ k : Nat, k < mx.length → ∃ j, j < N ∧ gt wh j = k) (hl : lots.length ≤ 100) (hs : so.length = N) (bs : ∀ x ∈ so, x.natAbs ≤ 2)
    (q : ∀ (r : List Int) (t9 t11 t12 t13 : Option SV), Lot N wh mx r → De.nx ⟨[some (.sh .deck), some (.sh (.int N)), s2, s3, none, s5, some (.sh (rowL wh)), some (.sh (.lst (mx.map rowL))), some (.ow (.lst ((lots ++ [r]).map rowD))), t9, s10, t11, t12, t13, none], n⟩) :
    tb_planted De ⟨[some (.sh .deck), some (.sh (.int N)), s2, s3, none, s5, some (.sh (rowL wh)), some (.sh (.lst (mx.map rowL))), some (.ow (.lst (lots.map rowD))), s9, s10, some (.ow (rowL so)), s12, s13, none], n⟩ := by
  have m6 : mx.length ≤ 6 := Nat.le_trans pn.mn n6
  rw [show tb_planted = wSeq (wFor (wEnum (wCons (wVar 7) wNil)) (gTup3 2 (gCons3 (gN 9) (gCons3 (gN 12) gNil3))) tk_planted) (wFreeA 11 (wAppend 8 (wIf (wTest (wOp fLt (wCB fMax (wCons (wLc (wItems asS (wVar 11)) (gN 14) wYes (wCB fAbs (wCons (wVar 14) wNil)) [14]) wNil)) (wC (.int 10)))) (wCB fTuple (wCons (wVar 11) wNil)) (wOp fMulB (wTup (wCons (wC (.int 0)) wNil)) (wVar 1))))) from rfl]
  simp
  refine wLoop_inv (fun i δ => ∃ (r : List Int) (t9 t12 t13 : Option SV), r.length = N ∧ (∀ x ∈ r, x.natAbs ≤ bd i) ∧ (∀ k : Nat, k < i → k < mx.length → Eqk N wh ((mx[k]?).getD []) r k) ∧
    δ = ⟨[some (.sh .deck), some (.sh (.int N)), s2, s3, none, s5, some (.sh (rowL wh)), some (.sh (.lst (mx.map rowL))), some (.ow (.lst (lots.map rowD))), t9, s10, some (.ow (rowL r)), t12, t13, none], n⟩) ⟨so, s9, s12, s13, hs, fun x hx => bs x hx, fun k hk => by omega, rfl⟩ ?_ ?_
  · rintro i d δ hd ⟨r, t9, t12, t13, hr, br, er, rfl⟩ NN hNN
    have il := (List.getElem?_eq_some_iff.mp hd).1
    rw [enumD_len, List.length_map] at il
    rw [enumD_get, List.getElem?_map] at hd
    obtain ⟨d', hd', rfl⟩ := Option.map_eq_some_iff.mp hd
    obtain ⟨m, hm, rfl⟩ := Option.map_eq_some_iff.mp hd'
    obtain ⟨m1, m2⟩ := pn.ml m (List.mem_of_getElem? hm)
    have em : (mx[i]?).getD [] = m := by rw [hm]; rfl
    have bi := bd_le i (by omega)
    have ne : ownK N wh i ≠ [] := by
      obtain ⟨j, hj, e⟩ := hit i il
      refine List.ne_nil_of_mem (a := j) ?_
      unfold ownK
      rw [List.mem_filter]
      exact ⟨List.mem_range.mpr hj, decide_eq_true e⟩
    have ho : ownK N wh i = (ownK N wh i).dropLast ++ [(ownK N wh i).getLast ne] := (List.dropLast_concat_getLast ne).symm
    generalize (ownK N wh i).dropLast = own at ho
    generalize (ownK N wh i).getLast ne = jl at ho
    obtain ⟨jN, jw⟩ := own_lt (N := N) (wh := wh) (k := i) (j := jl) (by rw [ho]; simp)
    have oN : ∀ j ∈ own, j < N := fun j hj => (own_lt (N := N) (wh := wh) (k := i) (by rw [ho]; simp [hj])).1
    have ol : own.length ≤ N := by
      have := own_len N wh i
      rw [ho] at this
      simp at this; omega
    have v1 : (dotL m r).natAbs ≤ N * bd i := by
      rw [dot_sg m1 hr]
      refine sg_le fun j hj => ?_
      have a := m2 _ (gt_mem (r := m) (j := j) (by omega))
      have b := br _ (gt_mem (r := r) (j := j) (by omega))
      rw [Int.natAbs_mul]
      exact Nat.le_trans (Nat.mul_le_mul a b) (by omega)
    have v2 : (own.map (gt r)).sum.natAbs ≤ (own.map (gt r)).length * bd i := sum_le fun x hx => by
      obtain ⟨j, hj, rfl⟩ := List.mem_map.mp hx
      exact br _ (gt_mem (by have := oN j hj; omega))
    rw [List.length_map] at v2
    have v3 : N * bd i ≤ 6 * bd i := Nat.mul_le_mul_right _ n6
    have v4 : own.length * bd i ≤ 6 * bd i := Nat.mul_le_mul_right _ (by omega)
    simp
    refine pk_planted (B := bd i) n6 pn.wl hr m1 bi br m2 ho (hNN _ ⟨_, _, _, _, by simpa using hr, fun x hx => ?_, fun k hk hk2 => ?_, rfl⟩)
    · rw [bd_succ]
      rcases List.mem_or_eq_of_mem_set hx with z | z
      · have := br x z; omega
      · subst z; omega
    · have mz : gt ((mx[k]?).getD []) jl = 0 := pn.mz k jl hk2 jN (by omega)
      rcases Nat.lt_or_ge k i with z | z
      · exact eqk_keep hr jN jw (by omega) mz (er k z hk2)
      · have : k = i := by omega
        subst this
        rw [em] at mz ⊢
        exact eqk_new m1 hr ho mz
  · rintro δ ⟨r, t9, t12, t13, hr, br, er, rfl⟩
    rw [enumD_len, List.length_map] at br er
    simp [rowL]
    refine wLc_inv (fun i acc δ => acc = ((r.take i).map fun x => ((x.natAbs : Nat) : Int)).map D.int ∧ δ = ⟨[some (.sh .deck), some (.sh (.int N)), s2, s3, none, s5, some (.sh (rowL wh)), some (.sh (.lst (mx.map rowL))), some (.ow (.lst (lots.map rowD))), t9, s10, some (.sh (rowL r)), t12, t13, none], n⟩) ⟨rfl, rfl⟩ ?_ ?_
    · rintro i d acc δ hd ⟨rfl, rfl⟩ NN hNN
      rw [List.getElem?_map] at hd
      obtain ⟨x, hx', rfl⟩ := Option.map_eq_some_iff.mp hd
      have il := (List.getElem?_eq_some_iff.mp hx').1
      simp
      refine ⟨by omega, hNN _ _ ⟨?_, rfl⟩⟩
      rw [List.take_add_one, hx']
      have := abs_i x
      simp [this]
    · rintro acc δ ⟨rfl, rfl⟩
      rw [List.length_map, List.take_length]
      simp
      refine ⟨r.map fun x => ((x.natAbs : Nat) : Int), by simp, by simp; intro z; subst z; simp at hr; omega, fun m h1 h2 => ?_⟩
      simp [rowL]
      refine ⟨fun h => ?_, fun h => ?_⟩
      · have lt : Lot N wh mx r := ⟨hr, fun x hx => by have := h2 _ (List.mem_map.mpr ⟨x, hx, rfl⟩); omega, fun k hk => er k hk hk⟩
        refine ⟨by omega, ?_⟩
        have := q r t9 (some (.sh (rowL r))) t12 t13 lt
        simpa [rowD, rowL] using this
      · have := q _ t9 (some (.sh (rowL r))) t12 t13 zeros_lot
        simp [rep1, rowL, rowD] at this ⊢
        first | exact this | exact ⟨by omega, this⟩ | exact ⟨by omega, by omega, this⟩ | exact ⟨by omega, by omega, by omega, this⟩

theorem p4_planted {Q : D → Nat → Prop} {N : Nat} {many : Int} {wh : List Int} {mx : List (List Int)} {n : Nat} {s3 s5 s9 : Option SV} (n1 : 1 ≤ N) (n6 : N ≤ 6) (m0 : 0 ≤ many) (m5 : many ≤ 5) (hn : n + 30 ≤ mostDraws) (pn : Pn N wh mx) (hit : ∀ k : Nat, k < mx.length → ∃ j, j < N ∧ gt wh j = k)
    (q : ∀ (lots : List (List Int)) (n' : Nat), (∀ r ∈ lots, Lot N wh mx r) → (lots.length : Int) = many → n' ≤ n + 30 → Q (plD wh mx lots) n') :
    t4_l_planted ⟨fun δ => Q .non δ.n, Q, fun _ => False, fun _ => False⟩ ⟨[some (.sh .deck), some (.sh (.int N)), some (.sh (.int many)), s3, none, s5, some (.sh (rowL wh)), some (.ow (.lst (mx.map rowL))), some (.ow (.lst [])), s9, none, none, none, none, none], n⟩ := by
  rw [show t4_l_planted = wSeq (wFor (wRng1 (wCons (wVar 2) wNil)) (gN 10) (wSeq (wAsgO 11 (wLc (wRng1 (wCons (wVar 1) wNil)) (gN 4) wYes (wOp fSub (wCall C_l_draw [] (wCons (wVar 0) (wCons (wC (.int 5)) wNil))) (wC (.int 2))) [4])) (wFreeA 7 tb_planted))) t5_l_planted from rfl]
  simp
  refine ⟨by omega, by omega, ?_⟩
  refine wLoop_inv (fun i δ => ∃ (lots : List (List Int)) (s7 : SV) (t9 t10 t11 t12 t13 : Option SV) (n' : Nat), (s7 = .ow (.lst (mx.map rowL)) ∨ s7 = .sh (.lst (mx.map rowL))) ∧ lots.length = i ∧ (∀ r ∈ lots, Lot N wh mx r) ∧ n' ≤ n + 6 * i ∧
    δ = ⟨[some (.sh .deck), some (.sh (.int N)), some (.sh (.int many)), s3, none, s5, some (.sh (rowL wh)), some s7, some (.ow (.lst (lots.map rowD))), t9, t10, t11, t12, t13, none], n'⟩) ⟨[], _, s9, none, none, none, none, n, .inl rfl, rfl, by simp, by omega, rfl⟩ ?_ ?_
  · rintro i d δ hd ⟨lots, s7, t9, t10, t11, t12, t13, n', hs, hl, hL, hn', rfl⟩ NN hNN
    obtain ⟨hi, rfl⟩ := rng_get hd
    simp
    refine ⟨by omega, ?_⟩
    refine wLc_inv (fun j acc δ => ∃ (xs : List Int) (n2 : Nat), acc = xs.map D.int ∧ xs.length = j ∧ (∀ x ∈ xs, x.natAbs ≤ 2) ∧ n2 ≤ n' + j ∧ δ = ⟨[some (.sh .deck), some (.sh (.int N)), some (.sh (.int many)), s3, none, s5, some (.sh (rowL wh)), some s7, some (.ow (.lst (lots.map rowD))), t9, some (.sh (.int i)), t11, t12, t13, none], n2⟩) ⟨[], n', rfl, rfl, by simp, by omega, rfl⟩ ?_ ?_
    · rintro j d acc δ hd ⟨xs, n2, rfl, hx, bx, h2, rfl⟩ NN2 hNN2
      obtain ⟨hj, rfl⟩ := rng_get hd
      simp
      refine draw_le (by decide) (.n (by decide)) (by omega) fun x x0 x1 => ?_
      simp
      refine ⟨by omega, hNN2 _ _ ⟨xs ++ [x - 2], n2 + 1, by simp, by simp [hx], fun y hy => ?_, by omega, rfl⟩⟩
      rcases List.mem_append.mp hy with z | z
      · exact bx y z
      · simp at z; omega
    · rintro acc δ ⟨xs, n2, rfl, hx, bx, h2, rfl⟩
      rw [rng_len] at hx h2
      have go := fun De q => pb_planted (De := De) (lots := lots) (s2 := some (.sh (.int many))) (s3 := s3) (s5 := s5) (s9 := t9) (s10 := some (.sh (.int i))) (s12 := t12) (s13 := t13) (n := n2) n1 n6 pn hit (by omega) hx bx q
      rcases hs with rfl | rfl
      all_goals
        simp [rowL] at go ⊢
        refine go _ fun r u9 u11 u12 u13 lt => hNN _ ⟨lots ++ [r], _, u9, some (.sh (.int i)), u11, u12, u13, n2, .inr rfl, by simp [hl], fun y hy => ?_, by omega, by simp [rowL]⟩
        rcases List.mem_append.mp hy with z | z
        · exact hL y z
        · simp at z; subst z; exact lt
  · rintro δ ⟨lots, s7, t9, t10, t11, t12, t13, n', hs, hl, hL, hn', rfl⟩
    rw [rng_len] at hl hn'
    have q := q lots n' hL (by omega) (by omega)
    rcases hs with rfl | rfl
    all_goals
      simp [t5_l_planted, plD] at q ⊢
      exact q

theorem p3_planted {Q : D → Nat → Prop} {N : Nat} {many : Int} {wh ms : List Int} {n : Nat} {s3 : Option SV} (n1 : 1 ≤ N) (n6 : N ≤ 6) (m0 : 0 ≤ many) (m5 : many ≤ 5) (hn : n + 70 ≤ mostDraws) (wl : wh.length = N) (wk : ∀ x ∈ wh, 0 ≤ x ∧ x < ms.length) (mn : ms.length ≤ N) (hit : ∀ k : Nat, k < ms.length → ∃ j, j < N ∧ gt wh j = k)
    (q : ∀ (mx lots : List (List Int)) (n' : Nat), Pn N wh mx → (∀ r ∈ lots, Lot N wh mx r) → (lots.length : Int) = many → n' ≤ n + 70 → Q (plD wh mx lots) n') :
    t3_l_planted ⟨fun δ => Q .non δ.n, Q, fun _ => False, fun _ => False⟩ ⟨[some (.sh .deck), some (.sh (.int N)), some (.sh (.int many)), s3, none, some (.sh (rowL ms)), some (.sh (rowL wh)), some (.ow (.lst [])), some (.ow (.lst [])), none, none, none, none, none, none], n⟩ := by
  rw [show t3_l_planted = wSeq _ t4_l_planted from rfl]
  simp [rowL]
  refine ⟨by omega, ?_⟩
  refine wLoop_inv (fun i δ => ∃ (mx : List (List Int)) (t9 : Option SV) (n' : Nat), mx.length = i ∧ (∀ m ∈ mx, m.length = N ∧ ∀ x ∈ m, x.natAbs ≤ 1) ∧ (∀ k j : Nat, k < mx.length → j < N → (k : Int) ≤ gt wh j → ent mx k j = 0) ∧ n' ≤ n + 6 * i ∧
    δ = ⟨[some (.sh .deck), some (.sh (.int N)), some (.sh (.int many)), s3, none, some (.sh (rowL ms)), some (.sh (rowL wh)), some (.ow (.lst (mx.map rowL))), some (.ow (.lst [])), t9, none, none, none, none, none], n'⟩) ⟨[], none, n, rfl, by simp, by simp, by omega, rfl⟩ ?_ ?_
  · rintro i d δ hd ⟨mx, t9, n', hl, ml, mz, hn', rfl⟩ NN hNN
    obtain ⟨hi, rfl⟩ := rng_get hd
    simp
    refine ⟨by omega, ?_⟩
    refine wLc_inv (fun j acc δ => ∃ (xs : List Int) (n2 : Nat), acc = xs.map D.int ∧ xs.length = j ∧ (∀ x ∈ xs, x.natAbs ≤ 1) ∧ (∀ j' : Nat, j' < j → (i : Int) ≤ gt wh j' → gt xs j' = 0) ∧ n2 ≤ n' + j ∧ δ = ⟨[some (.sh .deck), some (.sh (.int N)), some (.sh (.int many)), s3, none, some (.sh (rowL ms)), some (.sh (rowL wh)), some (.ow (.lst (mx.map rowL))), some (.ow (.lst [])), some (.sh (.int i)), none, none, none, none, none], n2⟩) ⟨[], n', rfl, rfl, by simp, by omega, by omega, rfl⟩ ?_ ?_
    · rintro j d acc δ hd ⟨xs, n2, rfl, hx, bx, zx, h2, rfl⟩ NN2 hNN2
      obtain ⟨hj, rfl⟩ := rng_get hd
      have a := gt_at (r := wh) (j := j) (by omega)
      have put : ∀ (x : Int) (n3 : Nat), x.natAbs ≤ 1 → ((i : Int) ≤ gt wh j → x = 0) → n3 ≤ n2 + 1 → NN2 ((xs ++ [x]).map D.int) ⟨[some (.sh .deck), some (.sh (.int N)), some (.sh (.int many)), s3, none, some (.sh (rowL ms)), some (.sh (rowL wh)), some (.ow (.lst (mx.map rowL))), some (.ow (.lst [])), some (.sh (.int i)), none, none, none, none, none], n3⟩ := fun x n3 h1 h2 h3 => hNN2 _ _ ⟨xs ++ [x], n3, rfl, by simp [hx], fun y hy => by
        rcases List.mem_append.mp hy with z | z
        · exact bx y z
        · simp at z; omega, fun j' hj' hle => by
        unfold gt
        rcases Nat.lt_or_ge j' j with z | z
        · rw [List.getElem?_append_left (by omega)]; exact zx j' z hle
        · have : j' = j := by omega
          subst this
          rw [← hx, List.getElem?_concat_length]; rw [← hx] at h2; exact h2 (by rw [hx]; exact hle), by omega, rfl⟩
      simp [rowL, a] at put ⊢
      refine ⟨fun h => ?_, fun h => ⟨by omega, put 0 n2 (by decide) (fun _ => rfl) (by omega)⟩⟩
      refine draw_le (by decide) (.n (by decide)) (by omega) fun x x0 x1 => ?_
      simp
      exact ⟨by omega, put (x - 1) (n2 + 1) (by omega) (fun z => by omega) (by omega)⟩
    · rintro acc δ ⟨xs, n2, rfl, hx, bx, zx, h2, rfl⟩
      rw [rng_len] at hx zx h2
      simp
      refine ⟨by omega, hNN _ ⟨mx ++ [xs], some (.sh (.int i)), n2, by simp [hl], fun m hm => ?_, fun k j hk hj hle => ?_, by omega, by simp [rowL]⟩⟩
      · rcases List.mem_append.mp hm with z | z
        · exact ml m z
        · simp at z; subst z; exact ⟨hx, bx⟩
      · unfold ent
        rcases Nat.lt_or_ge k mx.length with z | z
        · rw [List.getElem?_append_left z]; exact mz k j z hj hle
        · have : k = mx.length := by simp at hk; omega
          subst this
          rw [List.getElem?_concat_length]
          exact zx j hj (by rw [← hl]; exact hle)
  · rintro δ ⟨mx, t9, n', hl, ml, mz, hn', rfl⟩
    rw [rng_len] at hl hn'
    have lm : mx.length = ms.length := by omega
    have pn : Pn N wh mx := ⟨wl, fun x hx => by have := wk x hx; omega, by omega, ml, mz⟩
    exact p4_planted n1 n6 m0 m5 (by omega) pn (fun k hk => hit k (by omega)) fun lots n2 h1 h2 h3 => q mx lots n2 pn h1 h2 (by omega)
theorem inc_ge : ∀ (ms : List Int), ms.Pairwise (· < ·) → (∀ x ∈ ms, 0 ≤ x) → ∀ (i : Nat) (h : i < ms.length), (i : Int) ≤ ms[i] := fun ms hp h0 i => by
  induction i with
  | zero => exact fun h => by have := h0 _ (List.getElem_mem h); omega
  | succ i ih =>
    intro h
    have a := ih (by omega)
    have b := List.pairwise_iff_getElem.mp hp i (i + 1) (by omega) h (by omega)
    omega
theorem len_l_planted : ∀ ds n Q, C_l_planted ds n Q → ds.length = 3 := fun ds n Q ⟨_, _, e, _⟩ => by rw [e]; rfl
theorem pf_l_planted : ∀ ds n Q, C_l_planted ds n Q → w_l_planted ⟨fun δ => Q .non δ.n, Q, fun _ => False, fun _ => False⟩ ⟨start3 N_l_planted ds, n⟩ := by
  rintro ds n Q ⟨N, many, rfl, n1, n6, m0, m5, hn, q⟩
  rw [show w_l_planted = wSeq _ t1_l_planted from rfl]
  simp
  refine ⟨by omega, ?_⟩
  refine wLc_inv (fun j acc δ => ∃ (xs : List Int) (n2 : Nat), acc = xs.map D.int ∧ xs.length = j ∧ (∀ x ∈ xs, 0 ≤ x ∧ x < N) ∧ n2 ≤ n + j ∧ δ = ⟨[some (.sh .deck), some (.sh (.int N)), some (.sh (.int many)), none, none, none, none, none, none, none, none, none, none, none, none], n2⟩) ⟨[], n, rfl, rfl, by simp, by omega, rfl⟩ ?_ ?_
  · rintro j d acc δ hd ⟨xs, n2, rfl, hx, bx, h2, rfl⟩ NN2 hNN2
    obtain ⟨hj, rfl⟩ := rng_get hd
    simp
    refine draw_le (by omega) ((sz_len (k := 10) (by omega)).mono (by decide)) (by omega) fun x x0 x1 => ?_
    refine ⟨by omega, hNN2 _ _ ⟨xs ++ [x], n2 + 1, by simp, by simp [hx], fun y hy => ?_, by omega, rfl⟩⟩
    rcases List.mem_append.mp hy with z | z
    · exact bx y z
    · simp at z; subst z; exact ⟨x0, x1⟩
  · rintro acc δ ⟨xs, n2, rfl, hx, bx, h2, rfl⟩
    rw [rng_len] at hx h2
    rw [show t1_l_planted = wSeq _ t2_l_planted from rfl]
    simp
    refine ⟨xs, rfl, by omega, fun ms hp hm => ?_⟩
    rw [show t2_l_planted = wSeq _ t3_l_planted from rfl]
    simp
    refine wLc_inv (fun i acc δ => acc = ((xs.take i).map fun x => ((ms.idxOf x : Nat) : Int)).map D.int ∧ δ = ⟨[some (.sh .deck), some (.sh (.int N)), some (.sh (.int many)), some (.sh (rowL xs)), none, some (.sh (rowL ms)), none, none, none, none, none, none, none, none, none], n2⟩) ⟨rfl, rfl⟩ ?_ ?_
    · rintro i d acc δ hd ⟨rfl, rfl⟩ NN hNN
      rw [List.getElem?_map] at hd
      obtain ⟨x, hx', rfl⟩ := Option.map_eq_some_iff.mp hd
      have il := (List.getElem?_eq_some_iff.mp hx').1
      simp [rowL]
      refine ⟨ms, rfl, (hm x).mpr (List.mem_of_getElem? hx'), by omega, hNN _ _ ⟨?_, rfl⟩⟩
      rw [List.take_add_one, hx']; simp
    · rintro acc δ ⟨rfl, rfl⟩
      rw [List.length_map, List.take_length]
      simp
      have nn : ∀ x ∈ ms, 0 ≤ x := fun x h => (bx x ((hm x).mp h)).1
      have mn : ms.length ≤ N := by
        cases e : ms.length with
        | zero => omega
        | succ m =>
          have a := inc_ge ms hp nn m (by omega)
          have b := (bx _ ((hm _).mp (List.getElem_mem (show m < ms.length by omega)))).2
          omega
      have go := p3_planted (Q := Q) (N := N) (many := many) (wh := xs.map fun x => ((ms.idxOf x : Nat) : Int)) (ms := ms) (n := n2) (s3 := some (.sh (rowL xs))) n1 n6 m0 m5 (by omega) (by simpa using hx) (fun y hy => by
        obtain ⟨x, hx', rfl⟩ := List.mem_map.mp hy
        have := List.idxOf_lt_length_of_mem ((hm x).mpr hx')
        omega) mn (fun k hk => by
        have km := (hm _).mp (List.getElem_mem hk)
        obtain ⟨j, hj, e⟩ := List.getElem_of_mem km
        refine ⟨j, by omega, ?_⟩
        unfold gt
        rw [List.getElem?_map, List.getElem?_eq_getElem hj, e]
        show ((ms.idxOf ms[k] : Nat) : Int) = k
        have lt := List.idxOf_lt_length_of_mem (List.getElem_mem hk)
        have eq := List.getElem_idxOf lt
        have := List.pairwise_iff_getElem.mp hp
        rcases Nat.lt_trichotomy (ms.idxOf ms[k]) k with z | z | z
        · have := this _ _ lt hk z; omega
        · omega
        · have := this _ _ hk lt z; omega) fun mx lots n3 h1 h2' h3 h4 => q _ mx lots n3 h1 h2' h3 (by omega)
      simpa [rowL] using go
theorem len_l_marks : ∀ ds n Q, C_l_marks ds n Q → ds.length = 4 := fun ds n Q ⟨_, _, _, e, _⟩ => by rw [e]; rfl
theorem pf_l_marks : ∀ ds n Q, C_l_marks ds n Q → w_l_marks ⟨fun δ => Q .non δ.n, Q, fun _ => False, fun _ => False⟩ ⟨start3 N_l_marks ds, n⟩ := by
  rintro ds n Q ⟨N, t, many, rfl, n6, ht, m0, m5, hn, q⟩
  simp [w_l_marks]
  refine ⟨by omega, by omega, ?_⟩
  refine wLoop_inv (fun i δ => ∃ (M : List (List Int × Int × Int)) (t5 t6 t7 : Option D) (n' : Nat), M.length = i ∧ (∀ p ∈ M, OkR N t p) ∧ n' ≤ n + 7 * i ∧
    δ = ⟨[some (.sh .deck), some (.sh (.int N)), some (.sh (.int t)), some (.sh (.int many)), some (.ow (.lst (M.map rstE))), t5.map SV.sh, t6.map SV.sh, t7.map SV.sh, none], n'⟩) ⟨[], none, none, none, n, rfl, by simp, by omega, rfl⟩ ?_ ?_
  · rintro i d δ hd ⟨M, t5, t6, t7, n', hl, hM, hn', rfl⟩ NN hNN
    obtain ⟨hi, rfl⟩ := rng_get hd
    simp
    refine ⟨by omega, ?_⟩
    refine wLc_inv (fun j acc δ => ∃ (xs : List Int) (n2 : Nat), acc = xs.map D.int ∧ xs.length = j ∧ (∀ x ∈ xs, x.natAbs ≤ 3) ∧ n2 ≤ n' + j ∧ δ = ⟨[some (.sh .deck), some (.sh (.int N)), some (.sh (.int t)), some (.sh (.int many)), some (.ow (.lst (M.map rstE))), some (.sh (.int i)), t6.map SV.sh, t7.map SV.sh, none], n2⟩) ⟨[], n', rfl, rfl, by simp, by omega, rfl⟩ ?_ ?_
    · rintro j d acc δ hd ⟨xs, n2, rfl, hx, bx, h2, rfl⟩ NN2 hNN2
      obtain ⟨hj, rfl⟩ := rng_get hd
      simp
      refine draw_le (by decide) (.n (by decide)) (by omega) fun x x0 x1 => ?_
      simp
      refine ⟨by omega, hNN2 _ _ ⟨xs ++ [x - 3], n2 + 1, by simp, by simp [hx], fun y hy => ?_, by omega, rfl⟩⟩
      rcases List.mem_append.mp hy with z | z
      · exact bx y z
      · simp at z; omega
    · rintro acc δ ⟨xs, n2, rfl, hx, bx, h2, rfl⟩
      rw [rng_len] at hx h2
      have sl := sum_le (B := 3) bx
      have cm : CMulW xs.sum t := (Sz.of (k := 10) (by omega) (by omega)).cmul (Sz.of (k := 10) (by omega) (by omega)) (by decide)
      simp
      refine draw_le (by decide) (.n (by decide)) (by omega) fun y y0 y1 => ?_
      simp
      refine ⟨xs, .inr rfl, ?_⟩
      simp [cm, show ¬ 2 + y = 0 by omega, fmod_pos (show 0 ≤ 2 + y by omega)]
      refine ⟨by omega, hNN _ ⟨M ++ [(xs, xs.sum * t % (2 + y), 2 + y)], some (.int i), some (rowD xs), some (.int (2 + y)), n2 + 1, by simp [hl], fun p hp => ?_, by omega, by simp [rstE, rowD]⟩⟩
      rcases List.mem_append.mp hp with z | z
      · exact hM p z
      · simp at z; subst z; exact ⟨hx, bx, rfl, by show 2 ≤ 2 + y; omega, by show 2 + y ≤ 12; omega⟩
  · rintro δ ⟨M, t5, t6, t7, n', hl, hM, hn', rfl⟩
    rw [rng_len] at hl hn'
    simp
    exact q M n' (by omega) hM (by omega)
theorem key_w (a b c : D) : dAt [.inr "where", .inr "mixes", .inr "lots"] [a, b, c] (.inr "where" : Key) = some a := rfl
theorem key_m (a b c : D) : dAt [.inr "where", .inr "mixes", .inr "lots"] [a, b, c] (.inr "mixes" : Key) = some b := rfl
theorem key_l (a b c : D) : dAt [.inr "where", .inr "mixes", .inr "lots"] [a, b, c] (.inr "lots" : Key) = some c := rfl
theorem len_l_own_form : ∀ ds n Q, C_l_own_form ds n Q → ds.length = 2 := fun ds n Q ⟨_, _, _, _, e, _⟩ => by rw [e]; rfl
theorem pf_l_own_form : ∀ ds n Q, C_l_own_form ds n Q → w_l_own_form ⟨fun δ => Q .non δ.n, Q, fun _ => False, fun _ => False⟩ ⟨start3 N_l_own_form ds, n⟩ := by
  rintro ds n Q ⟨wh, mx, lots, b, rfl, hx, hw, hm, sb, q⟩
  simp [w_l_own_form, plD, key_w, key_m, key_l]
  refine wLoop_inv (fun i δ => ∃ t3 t4 : Option D, δ = ⟨[some (.sh (plD wh mx lots)), some (.sh (.int b)), some (.ow (.lst (((List.range i).map (ownMv wh mx b)).map rowD))), t3.map SV.sh, t4.map SV.sh, none, none], n⟩) ⟨none, none, rfl⟩ ?_ ?_
  · rintro i d δ hd ⟨t3, t4, rfl⟩ NN hNN
    have il := (List.getElem?_eq_some_iff.mp hd).1
    rw [enumD_len, List.length_map] at il
    rw [enumD_get, List.getElem?_map] at hd
    obtain ⟨d', hd', rfl⟩ := Option.map_eq_some_iff.mp hd
    obtain ⟨m, hm', rfl⟩ := Option.map_eq_some_iff.mp hd'
    obtain ⟨m1, m2⟩ := hm m (List.mem_of_getElem? hm')
    have em : (mx[i]?).getD [] = m := by rw [hm']; rfl
    have ol : (ownMv wh mx b i).length = wh.length := by unfold ownMv mvk; rw [em]; simp; omega
    simp [plD, key_w, rowL]
    refine wLc_inv (fun j acc δ => acc = ((ownMv wh mx b i).take j).map D.int ∧ δ = ⟨[some (.sh (plD wh mx lots)), some (.sh (.int b)), some (.ow (.lst (((List.range i).map (ownMv wh mx b)).map rowD))), some (.sh (.int i)), some (.sh (rowL m)), none, none], n⟩) ⟨rfl, by simp [plD, rowL]⟩ ?_ ?_
    · rintro j d acc δ hd ⟨rfl, rfl⟩ NN2 hNN2
      obtain ⟨x, y, hx', hy', rfl⟩ := zipD_get _ _ _ _ hd
      rw [List.getElem?_map] at hx' hy'
      obtain ⟨x, hx, rfl⟩ := Option.map_eq_some_iff.mp hx'
      obtain ⟨y, hy, rfl⟩ := Option.map_eq_some_iff.mp hy'
      have jl := (List.getElem?_eq_some_iff.mp hx).1
      have sy := m2 y (List.mem_of_getElem? hy)
      have e1 : (ownMv wh mx b i)[j]? = some (b * ((if x = i then 1 else 0) - y)) := by
        unfold ownMv mvk
        rw [em, List.getElem?_map, List.getElem?_zipWith, hx, hy]; rfl
      have cm : CMulW b ((if x = i then 1 else 0) - y) := sb.cmul (l := 12) ((Sz.sub (k := 10) (by split <;> exact .n (by decide)) sy).mono (by decide)) (by decide)
      have put := hNN2 (((ownMv wh mx b i).take (j + 1)).map D.int) _ ⟨rfl, rfl⟩
      rw [List.take_add_one, e1] at put
      simp at put ⊢
      exact ⟨cm, by omega, put⟩
    · rintro acc δ ⟨rfl, rfl⟩
      have le : (zipD (wh.map D.int) (m.map D.int)).length = (ownMv wh mx b i).length := by simp [zipD, ol]; omega
      rw [le, List.take_length]
      simp
      refine ⟨by omega, hNN _ ⟨some (.int i), some (rowL m), ?_⟩⟩
      simp [List.range_succ, rowD, plD, rowL]
  · rintro δ ⟨t3, t4, rfl⟩
    rw [enumD_len, List.length_map]
    simp [plD, key_w, rowL]
    have := q
    simp [Fm.d, ownF] at this
    simpa using this
theorem ent_set {mv : List (List Int)} {k : Nat} {row : List Int} (hk : k < mv.length) (i j : Nat) : ent (mv.set k row) i j = if k = i then gt row j else ent mv i j := by
  unfold ent
  rw [List.getElem?_set]
  split
  · first | rfl | (rw [if_pos hk]; rfl)
  · rfl
theorem ent_get {mv : List (List Int)} {k : Nat} (hk : k < mv.length) (j : Nat) : ent mv k j = gt mv[k] j := by
  unfold ent; rw [List.getElem?_eq_getElem hk]; rfl
theorem ent_map {mv : List (List Int)} {c : Int} (k j : Nat) : ent (mv.map fun m => m.map fun x => x * c) k j = ent mv k j * c := by
  unfold ent gt
  rw [List.getElem?_map]
  cases mv[k]? with
  | none => simp
  | some m =>
    simp only [Option.map_some, Option.getD_some]
    rw [List.getElem?_map]
    cases m[j]? <;> simp
section
variable {N b : Nat} {L : List (List Int)} {M : List (List Int × Int)} {F : Fm}
theorem FmOk.sz' {c : Nat} (h : FmOk N L M b F) (hc : b ≤ c) : FmOk N L M c F := ⟨h.f1, h.fb.mono hc, h.frl, h.mv1, h.mv12, h.mv, fun m hm x hx => (h.sz m hm x hx).mono hc, h.frt⟩
theorem FmOk.add (h : FmOk N L M b F) (hL : ∀ r ∈ L, r.length = N) (hM : ∀ p ∈ M, p.1.length = N) {k i : Nat} {c : Int} (ik : i < k) (hk : k < F.mv.length) (hc : c.natAbs ≤ 2) :
    FmOk N L M (b + 3) ⟨F.f, F.fr, F.mv.set k (List.zipWith (fun x y => x + c * y) F.mv[k] F.mv[i])⟩ := by
  have mk := h.mv _ (List.getElem_mem hk)
  have mi := h.mv _ (List.getElem_mem (show i < F.mv.length by omega))
  have er : ∀ j, j < N → gt (List.zipWith (fun x y => x + c * y) F.mv[k] F.mv[i]) j = ent F.mv k j + c * ent F.mv i j := fun j hj => by
    rw [gt_zip mk.1 mi.1 hj, ent_get hk, ent_get (show i < F.mv.length by omega)]
  refine ⟨h.f1, h.fb.mono (by omega), h.frl, by simpa using h.mv1, by simpa using h.mv12, fun m hm => ?_, fun m hm x hx => ?_, fun j t ht => ?_⟩
  · rcases List.mem_or_eq_of_mem_set hm with z | z
    · exact h.mv m z
    · subst z
      refine ⟨by rw [List.length_zipWith, mk.1, mi.1]; simp, fun r hr => ?_, fun p hp => ?_⟩
      · rw [dot_add (hL r hr) mk.1 mi.1, mk.2.1 r hr, mi.2.1 r hr]; simp
      · rw [dot_add (hM p hp) mk.1 mi.1]
        exact Int.dvd_add (mk.2.2 p hp) (Int.dvd_mul_of_dvd_right (mi.2.2 p hp))
  · rcases List.mem_or_eq_of_mem_set hm with z | z
    · exact (h.sz m z x hx).mono (by omega)
    · subst z
      obtain ⟨j, hj, rfl⟩ := mem_gt hx
      have jN : j < N := by rw [List.length_zipWith, mk.1, mi.1] at hj; omega
      rw [gt_zip mk.1 mi.1 jN]
      have s1 := h.sz _ (List.getElem_mem hk) _ (gt_mem (show j < F.mv[k].length by rw [mk.1]; exact jN))
      have s2 := h.sz _ (List.getElem_mem (show i < F.mv.length by omega)) _ (gt_mem (show j < F.mv[i].length by rw [mi.1]; exact jN))
      exact (s1.add ((Sz.of (k := 2) (i := c) (by omega) (by omega)).mul s2)).mono (by omega)
  · obtain ⟨k0, rfl, h1, h2, h3⟩ := h.frt j t ht
    have jN : j < N := by rw [← h.frl]; exact (List.getElem?_eq_some_iff.mp ht).1
    refine ⟨k0, rfl, by simpa using h1, ?_, fun i' hi' => ?_⟩
    · show ent (F.mv.set k _) k0 j = F.f
      rw [ent_set hk]
      split
      · rename_i e; subst e
        rw [er j jN, h2, h3 i ik]; simp
      · exact h2
    · show ent (F.mv.set k _) i' j = 0
      rw [ent_set hk]
      split
      · rename_i e; subst e
        rw [er j jN, h3 k hi', h3 i (by omega)]; simp
      · exact h3 i' hi'
theorem FmOk.scale (h : FmOk N L M b F) (hL : ∀ r ∈ L, r.length = N) (hM : ∀ p ∈ M, p.1.length = N) {c : Int} (c1 : 1 ≤ c) (cs : Sz 20 c) : FmOk N L M (b + 20) ⟨F.f * c, F.fr, F.mv.map fun m => m.map fun x => x * c⟩ := by
  have sm : ∀ m : List Int, (m.map fun x => x * c) = m.map fun x => c * x := fun m => List.map_congr_left fun x _ => Int.mul_comm _ _
  refine ⟨?_, h.fb.mul cs, h.frl, by simpa using h.mv1, by simpa using h.mv12, fun m hm => ?_, fun m hm x hx => ?_, fun j t ht => ?_⟩
  · have : 1 * 1 ≤ F.f * c := Int.mul_le_mul h.f1 c1 (by decide) (by have := h.f1; omega)
    simpa using this
  · obtain ⟨m', hm', rfl⟩ := List.mem_map.mp hm
    obtain ⟨a1, a2, a3⟩ := h.mv m' hm'
    rw [sm]
    refine ⟨by simpa using a1, fun r hr => ?_, fun p hp => ?_⟩
    · rw [dot_smul (hL r hr) a1, a2 r hr]; simp
    · rw [dot_smul (hM p hp) a1]
      exact Int.dvd_mul_of_dvd_right (a3 p hp)
  · obtain ⟨m', hm', rfl⟩ := List.mem_map.mp hm
    obtain ⟨x', hx', rfl⟩ := List.mem_map.mp hx
    exact (h.sz m' hm' x' hx').mul cs
  · obtain ⟨k0, rfl, h1, h2, h3⟩ := h.frt j t ht
    refine ⟨k0, rfl, by simpa using h1, ?_, fun i' hi' => ?_⟩
    · show ent (F.mv.map _) k0 j = F.f * c
      rw [ent_map, h2]
    · show ent (F.mv.map _) i' j = 0
      rw [ent_map, h3 i' hi']; simp
theorem ent_ins {mv : List (List Int)} {a : Nat} {row : List Int} (ha : a ≤ mv.length) (i j : Nat) : ent (mv.take a ++ [row] ++ mv.drop a) i j = if i < a then ent mv i j else if i = a then gt row j else ent mv (i - 1) j := by
  unfold ent
  have l1 : (mv.take a).length = a := by rw [List.length_take]; omega
  rw [List.append_assoc]
  by_cases h : i < a
  · rw [if_pos h, List.getElem?_append_left (by omega), List.getElem?_take, if_pos h]
  · rw [if_neg h, List.getElem?_append_right (by omega), l1]
    by_cases e : i = a
    · subst e; rw [if_pos rfl, Nat.sub_self]; rfl
    · rw [if_neg e]
      obtain ⟨q, rfl⟩ : ∃ q, i = a + 1 + q := ⟨i - a - 1, by omega⟩
      rw [show a + 1 + q - a = q + 1 by omega, show a + 1 + q - 1 = a + q by omega]
      show gt (((row :: mv.drop a)[q + 1]?).getD []) j = _
      rw [List.getElem?_cons_succ, List.getElem?_drop]
theorem FmOk.ins (h : FmOk N L M b F) (hL : ∀ r ∈ L, r.length = N) (hM : ∀ p ∈ M, p.1.length = N) {a : Nat} (ha : a ≤ F.mv.length) (h11 : F.mv.length ≤ 11) :
    FmOk N L M b ⟨F.f, F.fr.map fun t => t + (if (a : Int) ≤ t then 1 else 0), F.mv.take a ++ [List.replicate N 0] ++ F.mv.drop a⟩ := by
  have len : (F.mv.take a ++ [List.replicate N (0 : Int)] ++ F.mv.drop a).length = F.mv.length + 1 := by simp; omega
  have z : ∀ j, gt (List.replicate N 0) j = 0 := fun j => by unfold gt; rw [List.getElem?_replicate]; split <;> rfl
  have mem : ∀ m ∈ F.mv.take a ++ [List.replicate N (0 : Int)] ++ F.mv.drop a, m ∈ F.mv ∨ m = List.replicate N 0 := fun m hm => by
    rcases List.mem_append.mp hm with q | q
    · rcases List.mem_append.mp q with q | q
      · exact .inl (List.mem_of_mem_take q)
      · exact .inr (List.mem_singleton.mp q)
    · exact .inl (List.mem_of_mem_drop q)
  refine ⟨h.f1, h.fb, by simpa using h.frl, by rw [len]; omega, by rw [len]; omega, fun m hm => ?_, fun m hm x hx => ?_, fun j t ht => ?_⟩
  · rcases mem m hm with q | q
    · exact h.mv m q
    · subst q
      exact ⟨by simp, fun r hr => dot_zero (hL r hr), fun p hp => by rw [dot_zero (hM p hp)]; exact Int.dvd_zero _⟩
  · rcases mem m hm with q | q
    · exact h.sz m q x hx
    · subst q
      rw [(List.mem_replicate.mp hx).2]
      exact .of (by have : (0 : Int) < 2 ^ b := Int.pow_pos (by omega)
                    omega) (Int.pow_pos (by omega))
  · rw [List.getElem?_map] at ht
    obtain ⟨t', ht', rfl⟩ := Option.map_eq_some_iff.mp ht
    obtain ⟨k0, rfl, h1, h2, h3⟩ := h.frt j t' ht'
    by_cases q : a ≤ k0
    · refine ⟨k0 + 1, by rw [if_pos (by omega)]; omega, by show k0 + 1 < _; rw [len]; omega, ?_, fun i' hi' => ?_⟩
      · show ent (_ ++ _ ++ _) (k0 + 1) j = _
        rw [ent_ins ha, if_neg (by omega), if_neg (by omega)]; exact h2
      · show ent (_ ++ _ ++ _) i' j = _
        rw [ent_ins ha]
        split
        · exact h3 i' (by omega)
        · split
          · exact z j
          · exact h3 (i' - 1) (by omega)
    · refine ⟨k0, by rw [if_neg (by omega)]; omega, by show k0 < _; rw [len]; omega, ?_, fun i' hi' => ?_⟩
      · show ent (_ ++ _ ++ _) k0 j = _
        rw [ent_ins ha, if_pos (by omega)]; exact h2
      · show ent (_ ++ _ ++ _) i' j = _
        rw [ent_ins ha, if_pos (by omega)]; exact h3 i' hi'
theorem FmOk.app (h : FmOk N L M b F) (hL : ∀ r ∈ L, r.length = N) (hM : ∀ p ∈ M, p.1.length = N) {i : Nat} {c : Int} (hi : i < F.mv.length) (h11 : F.mv.length ≤ 11) (hc : c.natAbs ≤ 3) : FmOk N L M (b + 2) ⟨F.f, F.fr, F.mv ++ [F.mv[i].map fun x => c * x]⟩ := by
  have mi := h.mv _ (List.getElem_mem hi)
  refine ⟨h.f1, h.fb.mono (by omega), h.frl, by simp, by simp; omega, fun m hm => ?_, fun m hm x hx => ?_, fun j t ht => ?_⟩
  · rcases List.mem_append.mp hm with q | q
    · exact h.mv m q
    · rw [List.mem_singleton.mp q]
      refine ⟨by simpa using mi.1, fun r hr => ?_, fun p hp => ?_⟩
      · rw [dot_smul (hL r hr) mi.1, mi.2.1 r hr]; simp
      · rw [dot_smul (hM p hp) mi.1]
        exact Int.dvd_mul_of_dvd_right (mi.2.2 p hp)
  · rcases List.mem_append.mp hm with q | q
    · exact (h.sz m q x hx).mono (by omega)
    · rw [List.mem_singleton.mp q] at hx
      obtain ⟨x', hx', rfl⟩ := List.mem_map.mp hx
      have := (Sz.of (k := 2) (i := c) (by omega) (by omega)).mul (h.sz _ (List.getElem_mem hi) x' hx')
      exact this.mono (by omega)
  · obtain ⟨k0, rfl, h1, h2, h3⟩ := h.frt j t ht
    have keep : ∀ k, k < F.mv.length → ent (F.mv ++ [F.mv[i].map fun x => c * x]) k j = ent F.mv k j := fun k hk => by
      unfold ent; rw [List.getElem?_append_left hk]
    refine ⟨k0, rfl, by simp; omega, ?_, fun i' hi' => ?_⟩
    · show ent (F.mv ++ _) k0 j = _
      rw [keep k0 h1]; exact h2
    · show ent (F.mv ++ _) i' j = _
      rw [keep i' (by omega)]; exact h3 i' hi'
end
def t5_l_rewritten : WS :=
  (wFreeA 4 (wRet (wTup (wCons (wVar 2) (wCons (wCB fTuple (wCons (wVar 3) wNil)) (wCons (wCB fTuple (wCons (wLc (wItems asS (wVar 4)) (gN 5) wYes (wCB fTuple (wCons (wVar 5) wNil)) [5]) wNil)) wNil))))))
def t4_l_rewritten : WS :=
  (wSeq (wFor (wRng1 (wCons (wCall C_l_draw [] (wCons (wVar 0) (wCons (wC (.int 6)) wNil))) wNil)) (gN 12) (wSeq (wAsg 7 (wOp fSub (wCall C_l_draw [] (wCons (wVar 0) (wCons (wC (.int 7)) wNil))) (wC (.int 3))))
    (wAppend 4 (wLc (wItems asS (wOp fIx (wVar 4) (wCall C_l_draw [] (wCons (wVar 0) (wCons (wCB fLen (wCons (wVar 4) wNil)) wNil))))) (gN 9) wYes (wOp fMulB (wVar 7) (wVar 9)) [9]))))
    (wFreeA 4 (wRet (wTup (wCons (wVar 2) (wCons (wCB fTuple (wCons (wVar 3) wNil)) (wCons (wCB fTuple (wCons (wLc (wItems asS (wVar 4)) (gN 5) wYes (wCB fTuple (wCons (wVar 5) wNil)) [5]) wNil)) wNil)))))))
def t3_l_rewritten : WS :=
  (wSeq (wIfS (wTest (wOp (fEq false) (wCall C_l_draw [] (wCons (wVar 0) (wCons (wC (.int 2)) wNil))) (wC (.int 0)))) (wSeq (wAsg 11 (wCall C_l_draw [] (wCons (wVar 0) (wCons (wOp fAdd (wCB fLen (wCons (wVar 4) wNil)) (wC (.int 1))) wNil))))
    (wSeq (wInsert 4 (wVar 11) (wOp fMulB (wLst (wCons (wC (.int 0)) wNil)) (wCB fLen (wCons (wVar 3) wNil))))
    (wAsg 3 (wLc (wItems asS (wVar 3)) (gN 6) wYes (wOp fAdd (wVar 6) (wCB fInt (wCons (wOp fGe (wVar 6) (wVar 11)) wNil))) [6])))) wNext)
    (wSeq (wFor (wRng1 (wCons (wCall C_l_draw [] (wCons (wVar 0) (wCons (wC (.int 6)) wNil))) wNil)) (gN 12) (wSeq (wAsg 7 (wOp fSub (wCall C_l_draw [] (wCons (wVar 0) (wCons (wC (.int 7)) wNil))) (wC (.int 3))))
    (wAppend 4 (wLc (wItems asS (wOp fIx (wVar 4) (wCall C_l_draw [] (wCons (wVar 0) (wCons (wCB fLen (wCons (wVar 4) wNil)) wNil))))) (gN 9) wYes (wOp fMulB (wVar 7) (wVar 9)) [9]))))
    (wFreeA 4 (wRet (wTup (wCons (wVar 2) (wCons (wCB fTuple (wCons (wVar 3) wNil)) (wCons (wCB fTuple (wCons (wLc (wItems asS (wVar 4)) (gN 5) wYes (wCB fTuple (wCons (wVar 5) wNil)) [5]) wNil)) wNil))))))))
def t2_l_rewritten : WS :=
  (wSeq (wIfS (wTest (wOp (fEq false) (wCall C_l_draw [] (wCons (wVar 0) (wCons (wC (.int 2)) wNil))) (wC (.int 0)))) (wSeq (wAsg 7 (wOp fAdd (wC (.int 2)) (wCall C_l_draw [] (wCons (wVar 0) (wCons (wOp fPow (wC (.int 10)) (wC (.int 6))) wNil)))))
    (wFreeA 4 (wPar2 2 false 4 true (wOp fMulB (wVar 2) (wVar 7)) (wLc (wItems asS (wVar 4)) (gN 5) wYes (wLc (wItems asS (wVar 5)) (gN 9) wYes (wOp fMulB (wVar 9) (wVar 7)) [9]) [5])))) wNext)
    (wSeq (wIfS (wTest (wOp (fEq false) (wCall C_l_draw [] (wCons (wVar 0) (wCons (wC (.int 2)) wNil))) (wC (.int 0)))) (wSeq (wAsg 11 (wCall C_l_draw [] (wCons (wVar 0) (wCons (wOp fAdd (wCB fLen (wCons (wVar 4) wNil)) (wC (.int 1))) wNil))))
    (wSeq (wInsert 4 (wVar 11) (wOp fMulB (wLst (wCons (wC (.int 0)) wNil)) (wCB fLen (wCons (wVar 3) wNil))))
    (wAsg 3 (wLc (wItems asS (wVar 3)) (gN 6) wYes (wOp fAdd (wVar 6) (wCB fInt (wCons (wOp fGe (wVar 6) (wVar 11)) wNil))) [6])))) wNext)
    (wSeq (wFor (wRng1 (wCons (wCall C_l_draw [] (wCons (wVar 0) (wCons (wC (.int 6)) wNil))) wNil)) (gN 12) (wSeq (wAsg 7 (wOp fSub (wCall C_l_draw [] (wCons (wVar 0) (wCons (wC (.int 7)) wNil))) (wC (.int 3))))
    (wAppend 4 (wLc (wItems asS (wOp fIx (wVar 4) (wCall C_l_draw [] (wCons (wVar 0) (wCons (wCB fLen (wCons (wVar 4) wNil)) wNil))))) (gN 9) wYes (wOp fMulB (wVar 7) (wVar 9)) [9]))))
    (wFreeA 4 (wRet (wTup (wCons (wVar 2) (wCons (wCB fTuple (wCons (wVar 3) wNil)) (wCons (wCB fTuple (wCons (wLc (wItems asS (wVar 4)) (gN 5) wYes (wCB fTuple (wCons (wVar 5) wNil)) [5]) wNil)) wNil)))))))))
def t1_l_rewritten : WS :=
  (wSeq (wFor (wRng2 (wCons (wC (.int 1)) (wCons (wCB fLen (wCons (wVar 4) wNil)) wNil))) (gN 6) (wSeq (wAsgG (gTup3 2 (gCons3 (gN 7) (gCons3 (gN 8) gNil3))) (wTup (wCons (wOp fSub (wCall C_l_draw [] (wCons (wVar 0) (wCons (wC (.int 5)) wNil))) (wC (.int 2))) (wCons (wOp fIx (wVar 4) (wCall C_l_draw [] (wCons (wVar 0) (wCons (wVar 6) wNil)))) wNil))))
    (wSetIx 4 (wLc (wZip (wCons (wOp fIx (wVar 4) (wVar 6)) (wCons (wVar 8) wNil))) (gTup3 2 (gCons3 (gN 9) (gCons3 (gN 10) gNil3))) wYes (wOp fAdd (wVar 9) (wOp fMulB (wVar 7) (wVar 10))) [9, 10]) (wVar 6))))
    (wSeq (wIfS (wTest (wOp (fEq false) (wCall C_l_draw [] (wCons (wVar 0) (wCons (wC (.int 2)) wNil))) (wC (.int 0)))) (wSeq (wAsg 7 (wOp fAdd (wC (.int 2)) (wCall C_l_draw [] (wCons (wVar 0) (wCons (wOp fPow (wC (.int 10)) (wC (.int 6))) wNil)))))
    (wFreeA 4 (wPar2 2 false 4 true (wOp fMulB (wVar 2) (wVar 7)) (wLc (wItems asS (wVar 4)) (gN 5) wYes (wLc (wItems asS (wVar 5)) (gN 9) wYes (wOp fMulB (wVar 9) (wVar 7)) [9]) [5])))) wNext)
    (wSeq (wIfS (wTest (wOp (fEq false) (wCall C_l_draw [] (wCons (wVar 0) (wCons (wC (.int 2)) wNil))) (wC (.int 0)))) (wSeq (wAsg 11 (wCall C_l_draw [] (wCons (wVar 0) (wCons (wOp fAdd (wCB fLen (wCons (wVar 4) wNil)) (wC (.int 1))) wNil))))
    (wSeq (wInsert 4 (wVar 11) (wOp fMulB (wLst (wCons (wC (.int 0)) wNil)) (wCB fLen (wCons (wVar 3) wNil))))
    (wAsg 3 (wLc (wItems asS (wVar 3)) (gN 6) wYes (wOp fAdd (wVar 6) (wCB fInt (wCons (wOp fGe (wVar 6) (wVar 11)) wNil))) [6])))) wNext)
    (wSeq (wFor (wRng1 (wCons (wCall C_l_draw [] (wCons (wVar 0) (wCons (wC (.int 6)) wNil))) wNil)) (gN 12) (wSeq (wAsg 7 (wOp fSub (wCall C_l_draw [] (wCons (wVar 0) (wCons (wC (.int 7)) wNil))) (wC (.int 3))))
    (wAppend 4 (wLc (wItems asS (wOp fIx (wVar 4) (wCall C_l_draw [] (wCons (wVar 0) (wCons (wCB fLen (wCons (wVar 4) wNil)) wNil))))) (gN 9) wYes (wOp fMulB (wVar 7) (wVar 9)) [9]))))
    (wFreeA 4 (wRet (wTup (wCons (wVar 2) (wCons (wCB fTuple (wCons (wVar 3) wNil)) (wCons (wCB fTuple (wCons (wLc (wItems asS (wVar 4)) (gN 5) wYes (wCB fTuple (wCons (wVar 5) wNil)) [5]) wNil)) wNil))))))))))
abbrev DqR (Q : D → Nat → Prop) : Ends3 := ⟨fun δ => Q .non δ.n, Q, fun _ => False, fun _ => False⟩
abbrev stR (it : D) (F : Fm) (t6 t7 t8 t11 t12 : Option D) (n : Nat) : St3 :=
  ⟨[some (.sh .deck), some (.sh it), some (.sh (.int F.f)), some (.sh (rowL F.fr)), some (.ow (.lst (F.mv.map rowL))), none, t6.map SV.sh, t7.map SV.sh, t8.map SV.sh, none, none, t11.map SV.sh, t12.map SV.sh], n⟩
theorem p5_rew {Q : D → Nat → Prop} {it : D} {F : Fm} {t6 t7 t8 t11 t12 : Option D} {n : Nat} (hl : F.mv.length ≤ 100) (q : Q F.d n) : t5_l_rewritten (DqR Q) (stR it F t6 t7 t8 t11 t12 n) := by
  simp [t5_l_rewritten, stR, rowL]
  refine wLc_inv (fun i acc δ => acc = (F.mv.take i).map rowD ∧ δ = ⟨[some (.sh .deck), some (.sh it), some (.sh (.int F.f)), some (.sh (rowL F.fr)), some (.sh (.lst (F.mv.map rowL))), none, t6.map SV.sh, t7.map SV.sh, t8.map SV.sh, none, none, t11.map SV.sh, t12.map SV.sh], n⟩) ⟨rfl, rfl⟩ ?_ ?_
  · rintro i d acc δ hd ⟨rfl, rfl⟩ NN hNN
    rw [List.getElem?_map] at hd
    obtain ⟨m, hm, rfl⟩ := Option.map_eq_some_iff.mp hd
    have il := (List.getElem?_eq_some_iff.mp hm).1
    have put := hNN _ _ ⟨rfl, rfl⟩
    rw [List.take_add_one, hm] at put
    simp [rowL, rowD] at put ⊢
    exact ⟨by omega, put⟩
  · rintro acc δ ⟨rfl, rfl⟩
    rw [List.length_map, List.take_length]
    simp
    exact q
theorem p4_rew {Q : D → Nat → Prop} {it : D} {N b : Nat} {L : List (List Int)} {M : List (List Int × Int)} {F : Fm} {t6 t7 t8 t11 t12 : Option D} {n : Nat} (ok : FmOk N L M b F) (hb : b ≤ 290) (hN : N ≤ 100) (hL : ∀ r ∈ L, r.length = N) (hM : ∀ p ∈ M, p.1.length = N) (h7 : F.mv.length ≤ 7) (hn : n + 20 ≤ mostDraws)
    (q : ∀ (F' : Fm) (n' : Nat), FmOk N L M 300 F' → n' ≤ n + 20 → Q F'.d n') : t4_l_rewritten (DqR Q) (stR it F t6 t7 t8 t11 t12 n) := by
  rw [show t4_l_rewritten = wSeq _ t5_l_rewritten from rfl]
  simp
  refine draw_le (by decide) (.n (by decide)) (by omega) fun g g0 g1 => ?_
  simp
  refine ⟨by omega, by omega, ?_⟩
  refine wLoop_inv (fun i δ => ∃ (mv : List (List Int)) (u7 u12 : Option D) (n' : Nat), FmOk N L M (b + 2 * i) ⟨F.f, F.fr, mv⟩ ∧ mv.length = F.mv.length + i ∧ n' ≤ n + 1 + 2 * i ∧ δ = stR it ⟨F.f, F.fr, mv⟩ t6 u7 t8 t11 u12 n') ⟨F.mv, t7, t12, n + 1, ok, rfl, by omega, rfl⟩ ?_ ?_
  · rintro i d δ hd ⟨mv, u7, u12, n', ok', hl, hn', rfl⟩ NN hNN
    obtain ⟨hi, rfl⟩ := rng_get hd
    have i5 : i < 5 := by omega
    simp [stR]
    refine draw_le (by decide) (.n (by decide)) (by omega) fun y y0 y1 => ?_
    simp
    have := ok'.mv1
    have : 1 ≤ mv.length := this
    refine draw_le (by omega) ((sz_len (k := 10) (by omega)).mono (by decide)) (by omega) fun x x0 x1 => ?_
    obtain ⟨xn, rfl⟩ := Int.eq_ofNat_of_zero_le x0
    have xl : xn < mv.length := by omega
    have a1 : L2.atI (mv.map rowL) (xn : Int) = some (rowL mv[xn]) := L2.atI_nat (j := xn) (by rw [List.getElem?_map, List.getElem?_eq_getElem xl]; rfl)
    have al := ok'.app hL hM (i := xn) (c := y - 3) xl (by show mv.length ≤ 11; omega) (by omega)
    have ml := (ok'.mv _ (List.getElem_mem xl)).1
    have ms := ok'.sz _ (List.getElem_mem xl)
    simp [a1]
    simp [rowL]
    refine wLc_inv (fun j acc δ => acc = ((mv[xn].take j).map fun x => (y - 3) * x).map D.int ∧ δ = ⟨[some (.sh .deck), some (.sh it), some (.sh (.int F.f)), some (.sh (rowL F.fr)), some (.ow (.lst (mv.map rowL))), none, t6.map SV.sh, some (.sh (.int (y - 3))), t8.map SV.sh, none, none, t11.map SV.sh, some (.sh (.int i))], n' + 1 + 1⟩) ⟨rfl, by simp [rowL]⟩ ?_ ?_
    · rintro j d acc δ hd ⟨rfl, rfl⟩ NN2 hNN2
      rw [List.getElem?_map] at hd
      obtain ⟨z, hz, rfl⟩ := Option.map_eq_some_iff.mp hd
      have jl := (List.getElem?_eq_some_iff.mp hz).1
      have cm : CMulW (y - 3) z := (Sz.of (k := 10) (i := y - 3) (by omega) (by omega)).cmul (ms z (List.mem_of_getElem? hz)) (by omega)
      have put := hNN2 _ _ ⟨rfl, rfl⟩
      rw [List.take_add_one, hz] at put
      simp [cm] at put ⊢
      exact ⟨by omega, put⟩
    · rintro acc δ ⟨rfl, rfl⟩
      rw [List.length_map, List.take_length]
      simp
      refine ⟨by omega, hNN _ ⟨mv ++ [mv[xn].map fun x => (y - 3) * x], some (.int (y - 3)), some (.int i), n' + 1 + 1, al.sz' (by omega), by simp; omega, by omega, by simp [stR, rowL]⟩⟩
  · rintro δ ⟨mv, u7, u12, n', ok', hl, hn', rfl⟩
    rw [rng_len] at ok' hl hn'
    have gl : g.toNat ≤ 5 := by omega
    exact p5_rew (by show mv.length ≤ 100; omega) (q _ n' (ok'.sz' (by omega)) (by omega))
theorem p3_rew {Q : D → Nat → Prop} {it : D} {N b : Nat} {L : List (List Int)} {M : List (List Int × Int)} {F : Fm} {t6 t7 t8 : Option D} {n : Nat} (ok : FmOk N L M b F) (hb : b ≤ 290) (hN : N ≤ 100) (hL : ∀ r ∈ L, r.length = N) (hM : ∀ p ∈ M, p.1.length = N) (h7 : F.mv.length ≤ 6) (hn : n + 22 ≤ mostDraws)
    (q : ∀ (F' : Fm) (n' : Nat), FmOk N L M 300 F' → n' ≤ n + 22 → Q F'.d n') : t3_l_rewritten (DqR Q) (stR it F t6 t7 t8 none none n) := by
  rw [show t3_l_rewritten = wSeq _ t4_l_rewritten from rfl]
  have go := fun (F' : Fm) (b' : Nat) (t11 : Option D) (n' : Nat) (ok' : FmOk N L M b' F') (hb' : b' ≤ 290) (h' : F'.mv.length ≤ 7) (hn' : n' ≤ n + 2) => p4_rew (it := it) (t6 := t6) (t7 := t7) (t8 := t8) (t11 := t11) (t12 := none) (n := n') ok' hb' hN hL hM h' (by omega) fun F2 n2 h1 h2 => q F2 n2 h1 (by omega)
  simp [stR]
  refine draw_le (by decide) (.n (by decide)) (by omega) fun y y0 y1 => ?_
  simp
  refine ⟨fun _ => ?_, fun _ => ?_⟩
  · refine draw_le (by omega) ((sz_len (n := F.mv.length + 1) (k := 10) (by omega)).mono (by decide)) (by omega) fun x x0 x1 => ?_
    obtain ⟨xn, rfl⟩ := Int.eq_ofNat_of_zero_le x0
    have ins := ok.ins hL hM (a := xn) (by omega) (by omega)
    have fl := ok.frl
    have go := go _ b (some (.int xn)) (n + 1 + 1) ins hb (by simp; omega) (by omega)
    have lp : ∀ NN : List D → St3 → Prop, NN ((F.fr.map fun t => t + (if (xn : Int) ≤ t then 1 else 0)).map D.int) ⟨[some (.sh .deck), some (.sh it), some (.sh (.int F.f)), some (.sh (rowL F.fr)), some (.ow (.lst ((F.mv.take xn ++ [List.replicate N 0] ++ F.mv.drop xn).map rowL))), none, none, t7.map SV.sh, t8.map SV.sh, none, none, some (.sh (.int xn)), none], n + 1 + 1⟩ →
        wLcGo (gN 6) wYes (wOp fAdd (wVar 6) (wCB fInt (wCons (wOp fGe (wVar 6) (wVar 11)) wNil))) [6] NN (F.fr.map D.int) [] ⟨[some (.sh .deck), some (.sh it), some (.sh (.int F.f)), some (.sh (rowL F.fr)), some (.ow (.lst ((F.mv.take xn ++ [List.replicate N 0] ++ F.mv.drop xn).map rowL))), none, none, t7.map SV.sh, t8.map SV.sh, none, none, some (.sh (.int xn)), none], n + 1 + 1⟩ := fun NN hNN => by
      refine wLc_inv (fun i acc δ => acc = ((F.fr.take i).map fun t => t + (if (xn : Int) ≤ t then 1 else 0)).map D.int ∧ δ = ⟨[some (.sh .deck), some (.sh it), some (.sh (.int F.f)), some (.sh (rowL F.fr)), some (.ow (.lst ((F.mv.take xn ++ [List.replicate N 0] ++ F.mv.drop xn).map rowL))), none, none, t7.map SV.sh, t8.map SV.sh, none, none, some (.sh (.int xn)), none], n + 1 + 1⟩) ⟨rfl, rfl⟩ ?_ ?_
      · rintro i d acc δ hd ⟨rfl, rfl⟩ N2 hN2
        rw [List.getElem?_map] at hd
        obtain ⟨z, hz, rfl⟩ := Option.map_eq_some_iff.mp hd
        have jl := (List.getElem?_eq_some_iff.mp hz).1
        have put := hN2 _ _ ⟨rfl, rfl⟩
        rw [List.take_add_one, hz] at put
        simp at put ⊢
        exact ⟨by omega, put⟩
      · rintro acc δ ⟨rfl, rfl⟩
        rw [List.length_map, List.take_length]
        exact hNN
    have z0 : (List.replicate F.fr.length [D.int 0]).flatten = (List.replicate N (0 : Int)).map D.int := by rw [fl]; exact rep1 N
    simp [rowL, stR, z0] at go lp ⊢
    refine ⟨by omega, by omega, by omega, by omega, lp _ ?_⟩
    simpa using go
  · have := go F b none (n + 1) ok hb (by omega) (by omega)
    simpa [stR] using this
theorem p2_rew {Q : D → Nat → Prop} {it : D} {N b : Nat} {L : List (List Int)} {M : List (List Int × Int)} {F : Fm} {t6 t7 t8 : Option D} {n : Nat} (ok : FmOk N L M b F) (hb : b ≤ 260) (hN : N ≤ 100) (hL : ∀ r ∈ L, r.length = N) (hM : ∀ p ∈ M, p.1.length = N) (h7 : F.mv.length ≤ 6) (hn : n + 24 ≤ mostDraws)
    (q : ∀ (F' : Fm) (n' : Nat), FmOk N L M 300 F' → n' ≤ n + 24 → Q F'.d n') : t2_l_rewritten (DqR Q) (stR it F t6 t7 t8 none none n) := by
  rw [show t2_l_rewritten = wSeq _ t3_l_rewritten from rfl]
  have go := fun (F' : Fm) (b' : Nat) (t7 : Option D) (n' : Nat) (ok' : FmOk N L M b' F') (hb' : b' ≤ 290) (h' : F'.mv.length ≤ 6) (hn' : n' ≤ n + 2) => p3_rew (it := it) (t6 := t6) (t7 := t7) (t8 := t8) (n := n') ok' hb' hN hL hM h' (by omega) fun F2 n2 h1 h2 => q F2 n2 h1 (by omega)
  simp [stR]
  refine draw_le (by decide) (.n (by decide)) (by omega) fun y y0 y1 => ?_
  simp
  refine ⟨fun _ => ?_, fun _ => ?_⟩
  · refine ⟨by first | decide | exact ⟨by decide, by decide⟩, ?_⟩
    refine draw_le (by decide) (.n (by decide)) (by omega) fun x x0 x1 => ?_
    have cs : Sz 20 (2 + x) := .of (by omega) (by omega)
    have sc := ok.scale hL hM (c := 2 + x) (by omega) cs
    have go := go _ _ (some (.int (2 + x))) (n + 1 + 1) sc (by omega) (by simpa using h7) (by omega)
    have cf : CMulW F.f (2 + x) := ok.fb.cmul cs (by omega)
    simp [rowL, stR] at go
    simp [cf]
    refine wLc_inv (fun i acc δ => acc = (((F.mv.take i).map fun m => m.map fun z => z * (2 + x)).map rowL) ∧ δ = ⟨[some (.sh .deck), some (.sh it), some (.sh (.int F.f)), some (.sh (rowL F.fr)), some (.sh (.lst (F.mv.map rowL))), none, t6.map SV.sh, some (.sh (.int (2 + x))), t8.map SV.sh, none, none, none, none], n + 1 + 1⟩) ⟨rfl, rfl⟩ ?_ ?_
    · rintro i d acc δ hd ⟨rfl, rfl⟩ NN hNN
      rw [List.getElem?_map] at hd
      obtain ⟨m, hm, rfl⟩ := Option.map_eq_some_iff.mp hd
      have il := (List.getElem?_eq_some_iff.mp hm).1
      have ms := ok.sz m (List.mem_of_getElem? hm)
      have ml := (ok.mv m (List.mem_of_getElem? hm)).1
      have put := hNN _ _ ⟨rfl, rfl⟩
      rw [List.take_add_one, hm] at put
      simp [rowL]
      refine wLc_inv (fun j acc δ => acc = ((m.take j).map fun z => z * (2 + x)).map D.int ∧ δ = ⟨[some (.sh .deck), some (.sh it), some (.sh (.int F.f)), some (.sh (rowL F.fr)), some (.sh (.lst (F.mv.map rowL))), some (.sh (rowL m)), t6.map SV.sh, some (.sh (.int (2 + x))), t8.map SV.sh, none, none, none, none], n + 1 + 1⟩) ⟨rfl, by simp [rowL]⟩ ?_ ?_
      · rintro j d acc δ hd ⟨rfl, rfl⟩ N2 hN2
        rw [List.getElem?_map] at hd
        obtain ⟨z, hz, rfl⟩ := Option.map_eq_some_iff.mp hd
        have jl := (List.getElem?_eq_some_iff.mp hz).1
        have cm : CMulW z (2 + x) := (ms z (List.mem_of_getElem? hz)).cmul cs (by omega)
        have put := hN2 _ _ ⟨rfl, rfl⟩
        rw [List.take_add_one, hz] at put
        simp [cm] at put ⊢
        exact ⟨by omega, put⟩
      · rintro acc δ ⟨rfl, rfl⟩
        rw [List.length_map, List.take_length]
        simp [rowL] at put ⊢
        exact ⟨by omega, put⟩
    · rintro acc δ ⟨rfl, rfl⟩
      rw [List.length_map, List.take_length]
      simp [rowL] at go ⊢
      exact go
  · have := go F b t7 (n + 1) ok (by omega) h7 (by omega)
    simpa [stR] using this
theorem len_l_rewritten : ∀ ds n Q, C_l_rewritten ds n Q → ds.length = 2 := fun ds n Q ⟨_, _, _, _, _, e, _⟩ => by rw [e]; rfl
theorem pf_l_rewritten : ∀ ds n Q, C_l_rewritten ds n Q → w_l_rewritten ⟨fun δ => Q .non δ.n, Q, fun _ => False, fun _ => False⟩ ⟨start3 N_l_rewritten ds, n⟩ := by
  rintro ds n Q ⟨N, L, M, b, F, rfl, ok, hb, hN, hL, hM, h6, hn, q⟩
  rw [show w_l_rewritten = wSeq _ t1_l_rewritten from rfl]
  have a0 : L2.atI [D.int F.f, .tup (F.fr.map D.int), .tup (F.mv.map rowD)] 0 = some (.int F.f) := rfl
  have a1 : L2.atI [D.int F.f, .tup (F.fr.map D.int), .tup (F.mv.map rowD)] 1 = some (.tup (F.fr.map D.int)) := rfl
  have a2 : L2.atI [D.int F.f, .tup (F.fr.map D.int), .tup (F.mv.map rowD)] 2 = some (.tup (F.mv.map rowD)) := rfl
  simp [Fm.d, a0, a1, a2]
  refine wLc_inv (fun i acc δ => acc = (F.mv.take i).map rowL ∧ δ = ⟨[some (.sh .deck), some (.sh F.d), none, none, none, none, none, none, none, none, none, none, none], n⟩) ⟨rfl, rfl⟩ ?_ ?_
  · rintro i d acc δ hd ⟨rfl, rfl⟩ NN hNN
    rw [List.getElem?_map] at hd
    obtain ⟨m, hm, rfl⟩ := Option.map_eq_some_iff.mp hd
    have il := (List.getElem?_eq_some_iff.mp hm).1
    have put := hNN _ _ ⟨rfl, rfl⟩
    rw [List.take_add_one, hm] at put
    simp [rowL, rowD] at put ⊢
    exact ⟨by omega, put⟩
  · rintro acc δ ⟨rfl, rfl⟩
    rw [List.length_map, List.take_length]
    rw [show t1_l_rewritten = wSeq _ t2_l_rewritten from rfl]
    simp
    have l1 := ok.mv1
    refine ⟨1, F.mv.length, ⟨rfl, rfl⟩, ?_, ?_⟩
    · omega
    refine wLoop_inv (fun i δ => ∃ (mv : List (List Int)) (u6 u7 u8 : Option D) (n' : Nat), FmOk N L M (b + 3 * i) ⟨F.f, F.fr, mv⟩ ∧ mv.length = F.mv.length ∧ n' ≤ n + 2 * i ∧ δ = stR F.d ⟨F.f, F.fr, mv⟩ u6 u7 u8 none none n') ⟨F.mv, none, none, none, n, ok, rfl, by omega, rfl⟩ ?_ ?_
    · rintro i d δ hd ⟨mv, u6, u7, u8, n', ok', hl, hn', rfl⟩ NN hNN
      obtain ⟨hi, rfl⟩ := rng_get hd
      simp [stR]
      refine draw_le (by decide) (.n (by decide)) (by omega) fun y y0 y1 => ?_
      simp
      refine draw_le (by omega) ((Sz.of (k := 10) (by omega) (by omega)).mono (by decide)) (by omega) fun x x0 x1 => ?_
      obtain ⟨xn, rfl⟩ := Int.eq_ofNat_of_zero_le x0
      have kl : 1 + i < mv.length := by omega
      have xl : xn < mv.length := by omega
      have ad := ok'.add hL hM (k := 1 + i) (i := xn) (c := y - 2) (by omega) kl (by omega)
      have b1 : L2.atI (mv.map rowL) (xn : Int) = some (rowL mv[xn]) := L2.atI_nat (j := xn) (by rw [List.getElem?_map, List.getElem?_eq_getElem xl]; rfl)
      have b2 : L2.atI (mv.map rowL) (1 + (i : Int)) = some (rowL mv[1 + i]) := L2.atI_nat (j := 1 + i) (by rw [List.getElem?_map, List.getElem?_eq_getElem kl]; rfl)
      have b3 : ixN mv.length (1 + (i : Int)) = some (1 + i) := by unfold L2.ixN; rw [if_pos (by omega), if_pos (by omega)]; congr 1
      have mk := (ok'.mv _ (List.getElem_mem kl)).1
      have mi := (ok'.mv _ (List.getElem_mem xl)).1
      have sk := ok'.sz _ (List.getElem_mem kl)
      have si := ok'.sz _ (List.getElem_mem xl)
      simp [b1, b2]
      simp [rowL]
      let z := List.zipWith (fun x y' => x + (y - 2) * y') mv[1 + i] mv[xn]
      have lz : z.length = N := by simp only [z]; rw [List.length_zipWith, mk, mi]; simp
      refine wLc_inv (fun j acc δ => acc = (z.take j).map D.int ∧ δ = ⟨[some (.sh .deck), some (.sh F.d), some (.sh (.int F.f)), some (.sh (rowL F.fr)), some (.ow (.lst (mv.map rowL))), none, some (.sh (.int (1 + i))), some (.sh (.int (y - 2))), some (.sh (rowL mv[xn])), none, none, none, none], n' + 1 + 1⟩) ⟨rfl, by simp [rowL]⟩ ?_ ?_
      · rintro j d acc δ hd ⟨rfl, rfl⟩ N2 hN2
        obtain ⟨p1, p2, hp1, hp2, rfl⟩ := zipD_get _ _ _ _ hd
        rw [List.getElem?_map] at hp1 hp2
        obtain ⟨p1, h1, rfl⟩ := Option.map_eq_some_iff.mp hp1
        obtain ⟨p2, h2, rfl⟩ := Option.map_eq_some_iff.mp hp2
        have jl := (List.getElem?_eq_some_iff.mp h1).1
        have cm : CMulW (y - 2) p2 := (Sz.of (k := 10) (i := y - 2) (by omega) (by omega)).cmul (si p2 (List.mem_of_getElem? h2)) (by omega)
        have put := hN2 _ _ ⟨rfl, rfl⟩
        have hz : z[j]? = some (p1 + (y - 2) * p2) := by simp only [z]; rw [List.getElem?_zipWith, h1, h2]
        rw [List.take_add_one, hz] at put
        simp [cm] at put ⊢
        exact ⟨by omega, put⟩
      · rintro acc δ ⟨rfl, rfl⟩
        have le : (zipD (mv[1 + i].map D.int) (mv[xn].map D.int)).length = z.length := by simp [zipD, z]
        rw [le, List.take_length]
        simp [rowL, b3]
        refine hNN _ ⟨mv.set (1 + i) z, some (.int (1 + i)), some (.int (y - 2)), some (rowL mv[xn]), n' + 1 + 1, ad.sz' (by omega), by simpa using hl, by omega, by simp [stR, rowL]⟩
    · rintro δ ⟨mv, u6, u7, u8, n', ok', hl, hn', rfl⟩
      rw [rng_len] at ok' hn'
      exact p2_rew ok' (by omega) hN hL hM (by show mv.length ≤ 6; omega) (by omega) fun F2 n2 h1 h2 => q F2 n2 h1 (by omega)
theorem ent_range {m : Nat} {g : Nat → List Int} {k : Nat} (hk : k < m) (j : Nat) : ent ((List.range m).map g) k j = gt (g k) j := by
  unfold ent; rw [List.getElem?_map, List.getElem?_range hk]; rfl
theorem own_ok {N : Nat} {wh : List Int} {mx : List (List Int)} {R : List (List Int)} {M : List (List Int × Int)} {b : Int} (pn : Pn N wh mx) (n1 : 1 ≤ N) (n6 : N ≤ 6) (hR : ∀ r ∈ R, Lot N wh mx r) (b1 : 1 ≤ b) (sb : Sz 90 b) (hM : ∀ p ∈ M, p.1.length = N ∧ p.2 ∣ b) : FmOk N R M 100 (ownF wh mx b) := by
  have wl := pn.wl
  have mn := pn.mn
  have m1 : 1 ≤ mx.length := by
    have := pn.wk (gt wh 0) (gt_mem (by omega))
    omega
  have lm : ∀ k, k < mx.length → (mvk wh ((mx[k]?).getD []) k).length = N := fun k hk => by
    obtain ⟨e, e'⟩ := mx_at hk
    unfold mvk
    rw [List.length_zipWith, wl, e, (pn.ml _ (List.getElem_mem hk)).1]; simp
  have en : ∀ k j, k < mx.length → j < N → ent (ownF wh mx b).mv k j = b * ((if gt wh j = k then 1 else 0) - ent mx k j) := fun k j hk hj => by
    obtain ⟨e, e'⟩ := mx_at hk
    show ent ((List.range mx.length).map _) k j = _
    rw [ent_range hk]
    unfold ownMv
    rw [gt_map (by rw [lm k hk]; exact hj)]
    unfold mvk
    rw [e, gt_zip wl (pn.ml _ (List.getElem_mem hk)).1 hj, ent_get hk]
  have mem : ∀ m ∈ (ownF wh mx b).mv, ∃ k, k < mx.length ∧ m = ownMv wh mx b k := fun m hm => by
    obtain ⟨k, hk, rfl⟩ := List.mem_map.mp hm
    exact ⟨k, List.mem_range.mp hk, rfl⟩
  have len : (ownF wh mx b).mv.length = mx.length := by simp [ownF]
  refine ⟨b1, sb.mono (by decide), wl, by omega, by omega, fun m hm => ?_, fun m hm x hx => ?_, fun j t ht => ?_⟩
  · obtain ⟨k, hk, rfl⟩ := mem m hm
    obtain ⟨e, e'⟩ := mx_at hk
    have l := lm k hk
    unfold ownMv
    refine ⟨by simpa using l, fun r hr => ?_, fun p hp => ?_⟩
    · obtain ⟨r1, r2, r3⟩ := hR r hr
      rw [dot_smul r1 l, eqk_dot wl (by rw [e]; exact (pn.ml _ (List.getElem_mem hk)).1) r1 (r3 k hk)]; simp
    · obtain ⟨p1, p2⟩ := hM p hp
      rw [dot_smul p1 l]
      exact Int.dvd_mul_of_dvd_left p2
  · obtain ⟨k, hk, rfl⟩ := mem m hm
    obtain ⟨e, e'⟩ := mx_at hk
    unfold ownMv at hx
    obtain ⟨y, hy, rfl⟩ := List.mem_map.mp hx
    obtain ⟨j, hj, rfl⟩ := mem_gt hy
    rw [lm k hk] at hj
    obtain ⟨m2, m3⟩ := pn.ml _ (List.getElem_mem hk)
    have s : Sz 4 (gt (mvk wh ((mx[k]?).getD []) k) j) := by
      unfold mvk
      rw [e, gt_zip wl m2 hj]
      have := m3 _ (gt_mem (show j < mx[k].length by omega))
      refine .of ?_ ?_ <;> split <;> omega
    exact (sb.mul s).mono (by decide)
  · have jN : j < N := by rw [← wl]; exact (List.getElem?_eq_some_iff.mp ht).1
    have et : gt wh j = t := by unfold gt; rw [show wh[j]? = some t from ht]; rfl
    obtain ⟨w0, w1⟩ := pn.wk (gt wh j) (gt_mem (by omega))
    obtain ⟨k, hk⟩ := Int.eq_ofNat_of_zero_le w0
    have kl : k < mx.length := by omega
    refine ⟨k, by omega, by rw [len]; exact kl, ?_, fun i hi => ?_⟩
    · rw [en k j kl jN, if_pos hk, pn.mz k j kl jN (by omega)]; show b * (1 - 0) = b; omega
    · rw [en i j (by omega) jN, if_neg (by omega), pn.mz i j (by omega) jN (by omega)]; simp
theorem dot_rep (t : Int) : ∀ (r : List Int) (N : Nat), r.length = N → dotL r (List.replicate N t) = r.sum * t
  | [], N, _ => by simp [dotL]
  | x :: r, N, h => by
    obtain ⟨k, rfl⟩ : ∃ k, N = k + 1 := ⟨r.length, by simpa using h.symm⟩
    have := dot_rep t r k (by simpa using h)
    simp only [dotL, List.replicate_succ, List.zipWith_cons_cons, List.sum_cons] at this ⊢
    rw [this, Int.add_mul]
theorem sz9 {x : Int} (h : x.natAbs ≤ 9) : Sz 400 x := (Sz.of (k := 10) (by omega) (by omega)).mono (by decide)
theorem rep_sz {N : Nat} {t : Int} (ht : t.natAbs ≤ 3000) : ∀ x ∈ List.replicate N t, Sz 400 x := fun x hx => by
  rw [(List.mem_replicate.mp hx).2]
  exact (Sz.of (k := 20) (by omega) (by omega)).mono (by decide)
theorem repT (t : Int) (k : Nat) : (List.replicate k [D.int t]).flatten = (List.replicate k t).map D.int := by
  induction k with
  | zero => rfl
  | succ k ih => rw [List.replicate_succ, List.flatten_cons, ih]; rfl
theorem len_System_fulfils : ∀ ds n Q, C_System_fulfils ds n Q → ds.length = 2 := fun ds n Q ⟨_, _, _, _, _, e, _⟩ => by rw [e]; rfl
theorem pf_System_fulfils : ∀ ds n Q, C_System_fulfils ds n Q → w_System_fulfils ⟨fun δ => Q .non δ.n, Q, fun _ => False, fun _ => False⟩ ⟨start3 N_System_fulfils ds, n⟩ := by
  rintro ds n Q ⟨nm, L, M, N, t, rfl, ok, ht, q⟩
  have n6 := ok.n6
  have st := rep_sz (N := N) ht
  have dot : ∀ (r : List Int) (n : Nat) (Q : D → Nat → Prop), r.length = N → (∀ x ∈ r, x.natAbs ≤ 9) → Q (.int (r.sum * t)) n → C_product_sum [rowD r, rowD (List.replicate N t)] n Q := fun r n Q h1 h2 q => ⟨r, _, rfl, by omega, fun x hx => sz9 (h2 x hx), st, by rw [dot_rep t r N h1]; exact q⟩
  simp [w_System_fulfils, sysD]
  refine wLoop_inv (fun i δ => (∀ p ∈ L.take i, p.1.sum * t = p.2) ∧ ∃ o2 o3 o4 : Option SV, δ = ⟨[some (.sh (sysD nm L M)), some (.sh (rowD (List.replicate N t))), o2, o3, o4], n⟩) ⟨by simp, none, none, none, rfl⟩ ?_ ?_
  · rintro i d δ hd ⟨hp, o2, o3, o4, rfl⟩ NN hNN
    rw [List.getElem?_map] at hd
    obtain ⟨p, hpi, rfl⟩ := Option.map_eq_some_iff.mp hd
    have pm := List.mem_of_getElem? hpi
    obtain ⟨p1, p2⟩ := ok.l p pm
    simp [rowE]
    refine dot p.1 _ _ p1 p2 ?_
    simp
    refine ⟨fun h => ?_, fun h => ?_⟩
    · have : metB L M t = false := by
        unfold metB
        rw [Bool.and_eq_false_iff]
        refine .inl (Bool.eq_false_iff.mpr fun z => ?_)
        exact h (of_decide_eq_true (List.all_eq_true.mp z p pm))
      rw [this] at q; exact q
    · refine hNN _ ⟨fun p' hp' => ?_, _, _, _, rfl⟩
      rw [List.take_add_one, hpi] at hp'
      rcases List.mem_append.mp hp' with z | z
      · exact hp p' z
      · simp at z; subst z; exact h
  · rintro δ ⟨hp, o2, o3, o4, rfl⟩
    rw [List.length_map, List.take_length] at hp
    simp [sysD]
    refine wLoop_inv (fun i δ => (∀ p ∈ M.take i, (p.1.sum * t - p.2.1) % p.2.2 = 0) ∧ ∃ o2 o3 o4 : Option SV, δ = ⟨[some (.sh (sysD nm L M)), some (.sh (rowD (List.replicate N t))), o2, o3, o4], n⟩) ⟨by simp, o2, o3, o4, rfl⟩ ?_ ?_
    · rintro i d δ hd ⟨hp, o2, o3, o4, rfl⟩ NN hNN
      rw [List.getElem?_map] at hd
      obtain ⟨p, hpi, rfl⟩ := Option.map_eq_some_iff.mp hd
      have pm := List.mem_of_getElem? hpi
      obtain ⟨p1, p2, p3⟩ := ok.m p pm
      have m0 : ¬ p.2.2 = 0 := by omega
      simp [rstE]
      refine dot p.1 _ _ p1 p2 ?_
      simp [m0, fmod_pos (show 0 ≤ p.2.2 by omega)]
      refine ⟨fun h => ?_, fun h => ?_⟩
      · have : metB L M t = false := by
          unfold metB
          rw [Bool.and_eq_false_iff]
          refine .inr (Bool.eq_false_iff.mpr fun z => ?_)
          have := of_decide_eq_true (List.all_eq_true.mp z p pm)
          exact h (by first | exact this | exact Int.dvd_of_emod_eq_zero this)
        rw [this] at q; exact q
      · refine hNN _ ⟨fun p' hp' => ?_, _, _, _, rfl⟩
        rw [List.take_add_one, hpi] at hp'
        rcases List.mem_append.mp hp' with z | z
        · exact hp p' z
        · simp at z; subst z; first | exact h | exact Int.emod_eq_zero_of_dvd h
    · rintro δ ⟨hp2, o2, o3, o4, rfl⟩
      rw [List.length_map, List.take_length] at hp2
      simp
      have : metB L M t = true := by
        unfold metB
        rw [Bool.and_eq_true, List.all_eq_true, List.all_eq_true]
        exact ⟨fun p h => decide_eq_true (hp p h), fun p h => decide_eq_true (hp2 p h)⟩
      rw [this] at q; exact q
theorem pf_l_draw : ∀ (m turn cell : Int) (n : Nat) (Qd : D → Nat → Prop), 1 ≤ m → m.natAbs.log2 < 9000 → 0 ≤ turn → turn ≤ 2 ^ 40 → (∀ r : Int, 0 ≤ r → r < m → Qd (.int r) n) →
    w_l_draw ⟨fun δ => Qd .non δ.n, Qd, fun _ => False, fun _ => False⟩ ⟨some (.sh .deck) :: some (.sh (.int m)) :: some (.sh (.int turn)) :: some (.sh (.int cell)) :: List.replicate (N_l_draw.length - 4) none, n⟩ := by
  intro m turn cell n Qd m1 m2 t0 t1 q
  have ht : Sz 41 turn := .pos t0 (by omega)
  have h1 : Sz 31 (cell.fmod 2147483629) := Sz.emod (.n (by decide)) (by decide)
  have ha : Sz 20 60497 := .n (by decide)
  have h2 : CMulW 60497 turn := ha.cmul ht (by omega)
  have h3 : CMulW (60497 * turn) turn := (ha.mul ht).cmul ht (by omega)
  have h4 := (h1.add ((ha.mul ht).mul ht)).add (.n (by decide) : Sz 20 67)
  have h5 : CMulW (cell.fmod 2147483629 + 60497 * turn * turn + 67) 40692 := h4.cmul (l := 31) (.n (by decide)) (by decide)
  have h6 : ∀ i : Int, Sz 31 (i.fmod 2147483647) := fun i => Sz.emod (.n (by decide)) (by decide)
  have h7 : ∀ i : Int, Sz 31 (i.fmod 2147483587) := fun i => Sz.emod (.n (by decide)) (by decide)
  have h8 : CMulW 69621 turn := Sz.cmul (k := 31) (.n (by decide)) ht (by decide)
  simp [w_l_draw, h2, h3, h5]
  refine ⟨(h6 _).cmul (h6 _) (by decide), h8, (h7 _).cmul (l := 31) (.n (by decide)) (by decide), ⟨by decide, by decide⟩, by omega, ?_⟩
  exact q _ (Int.fmod_nonneg_of_pos _ (by omega)) (Int.fmod_lt_of_pos _ (by omega))
theorem key_c (a b c : D) : dAt [.inr "called", .inr "marks", .inr "lines"] [a, b, c] (.inr "called" : Key) = some a := rfl
theorem key_k (a b c : D) : dAt [.inr "called", .inr "marks", .inr "lines"] [a, b, c] (.inr "marks" : Key) = some b := rfl
theorem key_n (a b c : D) : dAt [.inr "called", .inr "marks", .inr "lines"] [a, b, c] (.inr "lines" : Key) = some c := rfl
theorem key_k2 (a b : D) : dAt [.inr "called", .inr "marks"] [a, b] (.inr "marks" : Key) = some b := rfl
theorem len_is_alike : ∀ ds n Q, C_is_alike ds n Q → ds.length = 2 := fun ds n Q ⟨_, _, _, _, e, _⟩ => by rw [e]; rfl
theorem pf_is_alike : ∀ ds n Q, C_is_alike ds n Q → w_is_alike ⟨fun δ => Q .non δ.n, Q, fun _ => False, fun _ => False⟩ ⟨start3 N_is_alike ds, n⟩ := by
  rintro ds n Q ⟨nm, L, M, t, rfl, ok, ht, q⟩
  have n6 := ok.n6
  simp [w_is_alike, sysD]
  refine ⟨t, rfl, ?_⟩
  simp [repT]
  refine ⟨by omega, nm, L, M, nm.length, t, by simp [sysD, rowD], ok, ht, q⟩
theorem len_is_alike_right : ∀ ds n Q, C_is_alike_right ds n Q → ds.length = 2 := fun ds n Q ⟨_, _, _, _, e, _⟩ => by rw [e]; rfl
theorem pf_is_alike_right : ∀ ds n Q, C_is_alike_right ds n Q → w_is_alike_right ⟨fun δ => Q .non δ.n, Q, fun _ => False, fun _ => False⟩ ⟨start3 N_is_alike_right ds, n⟩ := by
  rintro ds n Q ⟨nm, L, M, t, rfl, ok, ht, q⟩
  simp [w_is_alike_right, atI_zero]
  refine ⟨nm, L, M, t, rfl, ok, ht, ?_⟩
  simp
  refine ⟨fun h => ?_, fun h => ?_⟩
  · rw [h] at q; simpa using q
  · rw [h] at q; simpa using q
theorem len_places_of_pair : ∀ ds n Q, C_places_of_pair ds n Q → ds.length = 2 := fun ds n Q ⟨_, _, _, _, _, e, _⟩ => by rw [e]; rfl
theorem at01 (a b : D) : L2.atI [a, b] 1 = some b := rfl
theorem pf_places_of_pair : ∀ ds n Q, C_places_of_pair ds n Q → w_places_of_pair ⟨fun δ => Q .non δ.n, Q, fun _ => False, fun _ => False⟩ ⟨start3 N_places_of_pair ds, n⟩ := by
  rintro ds n Q ⟨xs, L, M, a, b, rfl, ha, hb, q⟩
  simp [w_places_of_pair, sysD, pairD, atI_zero, at01]
  exact ⟨xs, rfl, ha, xs, rfl, hb, q⟩
theorem len_is_parted : ∀ ds n Q, C_is_parted ds n Q → ds.length = 3 := fun ds n Q ⟨_, _, _, _, _, _, e, _⟩ => by rw [e]; rfl
theorem pf_is_parted : ∀ ds n Q, C_is_parted ds n Q → w_is_parted ⟨fun δ => Q .non δ.n, Q, fun _ => False, fun _ => False⟩ ⟨start3 N_is_parted ds, n⟩ := by
  rintro ds n Q ⟨xs, L, M, mv, a, b, rfl, ha, hb, hm, hl, q⟩
  simp [w_is_parted]
  refine ⟨xs, L, M, a, b, rfl, ha, hb, ?_⟩
  simp
  have ia : xs.idxOf a < xs.length := List.idxOf_lt_length_of_mem ha
  have ib : xs.idxOf b < xs.length := List.idxOf_lt_length_of_mem hb
  refine wLc_inv (fun i acc δ => acc = ((mv.take i).map fun m => decide (gt m (xs.idxOf a) ≠ gt m (xs.idxOf b))).map D.bl ∧ δ = ⟨[some (.sh (sysD (xs.map D.str) L M)), some (.sh (.tup (mv.map rowD))), some (.sh (pairD (a, b))), some (.sh (.int (xs.idxOf a : Nat))), some (.sh (.int (xs.idxOf b : Nat))), none], n⟩) ⟨rfl, rfl⟩ ?_ ?_
  · rintro i d acc δ hd ⟨rfl, rfl⟩ NN hNN
    rw [List.getElem?_map] at hd
    obtain ⟨m, hmi, rfl⟩ := Option.map_eq_some_iff.mp hd
    have il := (List.getElem?_eq_some_iff.mp hmi).1
    have ml := hm m (List.mem_of_getElem? hmi)
    have g1 := gt_at (r := m) (j := xs.idxOf a) (by omega)
    have g2 := gt_at (r := m) (j := xs.idxOf b) (by omega)
    have put := hNN _ _ ⟨rfl, rfl⟩
    rw [List.take_add_one, hmi] at put
    simp at put
    simp [rowD, g1, g2]
    exact ⟨by omega, put⟩
  · rintro acc δ ⟨rfl, rfl⟩
    rw [List.length_map, List.take_length]
    simp
    refine ⟨mv.map fun m => decide (gt m (xs.idxOf a) ≠ gt m (xs.idxOf b)), by simp [Function.comp_def], ?_⟩
    rw [List.any_map]
    exact q
theorem len_is_form_right : ∀ ds n Q, C_is_form_right ds n Q → ds.length = 3 := fun ds n Q ⟨_, _, _, _, _, _, e, _⟩ => by rw [e]; rfl
theorem SyT.s {N : Nat} {L : List (List Int × Int)} {M : List (List Int × Int × Int)} (h : SyT N L M) : SyS L M := by
  have n6 := h.n6
  have ll := h.ll
  have ml := h.ml
  exact ⟨by omega, by omega, fun p hp => ⟨by rw [(h.l p hp).1]; omega, fun x hx => sz9 ((h.l p hp).2 x hx)⟩, fun p hp => ⟨by rw [(h.m p hp).1]; omega, fun x hx => sz9 ((h.m p hp).2.1 x hx), (h.m p hp).2.2⟩⟩
theorem pf_is_form_right : ∀ ds n Q, C_is_form_right ds n Q → w_is_form_right ⟨fun δ => Q .non δ.n, Q, fun _ => False, fun _ => False⟩ ⟨start3 N_is_form_right ds, n⟩ := by
  rintro ds n Q ⟨xs, L, M, t, F, ps, rfl, wd, ht, ok, ⟨pl, hp⟩, q⟩
  have n6 := wd.ok.n6
  simp [w_is_form_right, atI_zero, at01]
  refine ⟨_, L, M, t, rfl, by simpa using wd.ok, ht, ?_⟩
  simp
  refine ⟨fun h => ?_, fun h => ?_⟩
  case' refine_2 => rw [h] at q; simpa using q
  rw [h] at q
  refine ⟨_, L, M, F, rfl, wd.ok.s, by simp; omega, by simpa using ok, ?_⟩
  simp
  rw [Fm.d]
  simp
  refine wLc_inv (fun i acc δ => acc = ((ps.take i).map fun p => prtB xs F.mv p.1 p.2).map D.bl ∧ δ = ⟨[some (.sh (sysD (xs.map D.str) L M)), some (.sh (.tup [.int t, F.d])), some (.sh (.tup (ps.map pairD))), some (.sh (.int F.f)), some (.sh (.tup (F.fr.map D.int))), some (.sh (.tup (F.mv.map rowD))), none], n⟩) ⟨rfl, rfl⟩ ?_ ?_
  · rintro i d acc δ hd ⟨rfl, rfl⟩ NN hNN
    rw [List.getElem?_map] at hd
    obtain ⟨p, hpi, rfl⟩ := Option.map_eq_some_iff.mp hd
    have il := (List.getElem?_eq_some_iff.mp hpi).1
    obtain ⟨p1, p2⟩ := hp p (List.mem_of_getElem? hpi)
    have m12 := ok.mv12
    have put := hNN _ _ ⟨rfl, rfl⟩
    rw [List.take_add_one, hpi] at put
    simp at put
    simp
    refine ⟨xs, L, M, F.mv, p.1, p.2, rfl, p1, p2, fun m hm => (ok.mv m hm).1, by omega, ?_⟩
    simp
    exact ⟨by omega, put⟩
  · rintro acc δ ⟨rfl, rfl⟩
    rw [List.length_map, List.take_length]
    simp
    refine ⟨ps.map fun p => prtB xs F.mv p.1 p.2, by simp [Function.comp_def], ?_⟩
    rw [List.all_map]
    simpa [allP] using q
theorem pl_pairs {xs : List Str} {ps : List (Str × Str)} (hs : ∀ x ∈ xs, OkS 8 x) (h : InP xs ps) : Pl 32 (.tup (ps.map pairD)) := Pl.tmap (f := pairD) fun p hp => by
  obtain ⟨a, b⟩ := h.2 p hp
  refine .tup fun d hd => ?_
  simp at hd
  rcases hd with rfl | rfl
  · exact .str _ _ (hs _ a).lay
  · exact .str _ _ (hs _ b).lay
theorem pl_str (h : Nat) (x : Str) (hx : (x.cps.toList.all fun c => decide (c < 0x110000)) = true) : Pl h (.str x) := .str _ _ (OkS.lay (k := x.length) ⟨Nat.le_refl _, fun c hc => of_decide_eq_true (List.all_eq_true.mp hx c hc)⟩)
theorem pl_fm (F : Fm) : Pl 31 F.d := .tup fun d hd => by
  simp at hd
  rcases hd with rfl | rfl | rfl
  · exact .int _ _
  · exact Pl.tints _
  · exact Pl.tmap (f := rowD) fun r _ => Pl.tints r
theorem len_verdict_holds : ∀ ds n Q, C_verdict_holds ds n Q → ds.length = 3 := fun ds n Q ⟨_, _, _, _, _, _, _, _, _, h⟩ => by rcases h with ⟨e, _⟩ | ⟨e, _⟩ <;> (rw [e]; rfl)
theorem tups_nil {ps : List (Str × Str)} : D.tup (ps.map pairD) = .tup [] ↔ ps = [] := by simp
theorem pf_verdict_holds : ∀ ds n Q, C_verdict_holds ds n Q → w_verdict_holds ⟨fun δ => Q .non δ.n, Q, fun _ => False, fun _ => False⟩ ⟨start3 N_verdict_holds ds, n⟩ := by
  rintro ds n Q ⟨xs, L, M, t, F, ps, wd, ht, hp, h⟩
  rcases h with ⟨rfl, ok, q⟩ | ⟨rfl, q⟩
  · simp [w_verdict_holds]
    refine eqD_pl (.tup fun d hd => ?_) Pl.tnil (fun h => by cases h) fun _ => ?_
    · simp at hd
      rcases hd with rfl | rfl | rfl
      · exact pl_str _ _ (by decide +kernel)
      · exact .int _ _
      · exact pl_fm F
    simp [atI_zero]
    have e1 : ¬ (("form" : Str) = "modulo") := by decide
    have e2 : ¬ (("form" : Str) = "alike") := by decide
    have e3 : ¬ (("form" : Str) = "never") := by decide
    simp [e1, e2, e3, cut_tl]
    exact ⟨xs, L, M, t, F, ps, rfl, wd, ht, ok, hp, q⟩
  · simp [w_verdict_holds]
    refine eqD_pl (.tup fun d hd => ?_) Pl.tnil (fun h => by cases h) fun _ => ?_
    · simp at hd
      rcases hd with rfl | rfl
      · exact pl_str _ _ (by decide +kernel)
      · exact .int _ _
    simp [atI_zero]
    have e1 : ¬ (("alike" : Str) = "modulo") := by decide
    simp [e1, cut_tl]
    refine eqD_pl (pl_pairs wd.s hp) Pl.tnil (fun h => ?_) fun h => ?_
    · have h := tups_nil.mp h
      simp
      refine ⟨_, L, M, t, rfl, by simpa using wd.ok, ht, ?_⟩
      rw [decide_eq_true h] at q
      simpa using q
    · have h : ¬ ps = [] := fun z => h (tups_nil.mpr z)
      rw [decide_eq_false h] at q
      simpa using q
theorem len_l_code : ∀ ds n Q, C_l_code ds n Q → ds.length = 1 := fun ds n Q ⟨_, _, _, e, _⟩ => by rw [e]; rfl
theorem pf_l_code : ∀ ds n Q, C_l_code ds n Q → w_l_code ⟨fun δ => Q .non δ.n, Q, fun _ => False, fun _ => False⟩ ⟨start3 N_l_code ds, n⟩ := by
  rintro ds n Q ⟨xs, L, M, rfl, q⟩
  simp [w_l_code, wD, key_c, key_k, key_n]
  exact ⟨_, _, _, rfl, q⟩
theorem len_l_is_met : ∀ ds n Q, C_l_is_met ds n Q → ds.length = 2 := fun ds n Q ⟨_, _, _, _, e, _⟩ => by rw [e]; rfl
theorem pf_l_is_met : ∀ ds n Q, C_l_is_met ds n Q → w_l_is_met ⟨fun δ => Q .non δ.n, Q, fun _ => False, fun _ => False⟩ ⟨start3 N_l_is_met ds, n⟩ := by
  rintro ds n Q ⟨xs, L, M, t, rfl, ok, ht, q⟩
  have n6 := ok.n6
  have st := rep_sz (N := xs.length) ht
  have dot : ∀ (r : List Int) (n : Nat) (Q : D → Nat → Prop), r.length = xs.length → (∀ x ∈ r, x.natAbs ≤ 9) → Q (.int (r.sum * t)) n → C_l_dot [rowD r, rowD (List.replicate xs.length t)] n Q := fun r n Q h1 h2 q => ⟨r, _, _, _, rfl, .inr rfl, .inr rfl, by omega, fun x hx => sz9 (h2 x hx), st, by rw [dot_rep t r xs.length h1]; exact q⟩
  simp [w_l_is_met, wD, key_c, key_k, key_n]
  refine wLoop_inv (fun i δ => (∀ p ∈ L.take i, p.1.sum * t = p.2) ∧ ∃ o2 o3 o4 : Option SV, δ = ⟨[some (.sh (wD xs L M)), some (.sh (rowD (List.replicate xs.length t))), o2, o3, o4], n⟩) ⟨by simp, none, none, none, rfl⟩ ?_ ?_
  · rintro i d δ hd ⟨hp, o2, o3, o4, rfl⟩ NN hNN
    rw [List.getElem?_map] at hd
    obtain ⟨p, hpi, rfl⟩ := Option.map_eq_some_iff.mp hd
    have pm := List.mem_of_getElem? hpi
    obtain ⟨p1, p2⟩ := ok.l p pm
    simp [rowE]
    refine dot p.1 _ _ p1 p2 ?_
    simp
    refine ⟨fun h => ?_, fun h => ?_⟩
    · have : metB L M t = false := by
        unfold metB
        rw [Bool.and_eq_false_iff]
        refine .inl (Bool.eq_false_iff.mpr fun z => ?_)
        exact h (of_decide_eq_true (List.all_eq_true.mp z p pm))
      rw [this] at q; exact q
    · refine hNN _ ⟨fun p' hp' => ?_, _, _, _, rfl⟩
      rw [List.take_add_one, hpi] at hp'
      rcases List.mem_append.mp hp' with z | z
      · exact hp p' z
      · simp at z; subst z; exact h
  · rintro δ ⟨hp, o2, o3, o4, rfl⟩
    rw [List.length_map, List.take_length] at hp
    simp [wD, key_c, key_k, key_n]
    refine wLoop_inv (fun i δ => (∀ p ∈ M.take i, (p.1.sum * t - p.2.1) % p.2.2 = 0) ∧ ∃ o2 o3 o4 : Option SV, δ = ⟨[some (.sh (wD xs L M)), some (.sh (rowD (List.replicate xs.length t))), o2, o3, o4], n⟩) ⟨by simp, o2, o3, o4, rfl⟩ ?_ ?_
    · rintro i d δ hd ⟨hp, o2, o3, o4, rfl⟩ NN hNN
      rw [List.getElem?_map] at hd
      obtain ⟨p, hpi, rfl⟩ := Option.map_eq_some_iff.mp hd
      have pm := List.mem_of_getElem? hpi
      obtain ⟨p1, p2, p3⟩ := ok.m p pm
      have m0 : ¬ p.2.2 = 0 := by omega
      simp [rstE]
      refine dot p.1 _ _ p1 p2 ?_
      simp [m0, fmod_pos (show 0 ≤ p.2.2 by omega)]
      refine ⟨fun h => ?_, fun h => ?_⟩
      · have : metB L M t = false := by
          unfold metB
          rw [Bool.and_eq_false_iff]
          refine .inr (Bool.eq_false_iff.mpr fun z => ?_)
          have := of_decide_eq_true (List.all_eq_true.mp z p pm)
          exact h (by first | exact this | exact Int.dvd_of_emod_eq_zero this)
        rw [this] at q; exact q
      · refine hNN _ ⟨fun p' hp' => ?_, _, _, _, rfl⟩
        rw [List.take_add_one, hpi] at hp'
        rcases List.mem_append.mp hp' with z | z
        · exact hp p' z
        · simp at z; subst z; first | exact h | exact Int.emod_eq_zero_of_dvd h
    · rintro δ ⟨hp2, o2, o3, o4, rfl⟩
      rw [List.length_map, List.take_length] at hp2
      simp
      have : metB L M t = true := by
        unfold metB
        rw [Bool.and_eq_true, List.all_eq_true, List.all_eq_true]
        exact ⟨fun p h => decide_eq_true (hp p h), fun p h => decide_eq_true (hp2 p h)⟩
      rw [this] at q; exact q
theorem at_nm {xs : List Str} {x : Int} (x0 : 0 ≤ x) (x1 : x < xs.length) : ∃ a, a ∈ xs ∧ L2.atI (xs.map D.str) x = some (.str a) := by
  obtain ⟨j, rfl⟩ := Int.eq_ofNat_of_zero_le x0
  have hj : j < xs.length := by omega
  exact ⟨xs[j], List.getElem_mem hj, L2.atI_nat (j := j) (by rw [List.getElem?_map, List.getElem?_eq_getElem hj]; rfl)⟩
theorem len_l_apart : ∀ ds n Q, C_l_apart ds n Q → ds.length = 3 := fun ds n Q ⟨_, _, _, _, e, _⟩ => by rw [e]; rfl
theorem pf_l_apart : ∀ ds n Q, C_l_apart ds n Q → w_l_apart ⟨fun δ => Q .non δ.n, Q, fun _ => False, fun _ => False⟩ ⟨start3 N_l_apart ds, n⟩ := by
  rintro ds n Q ⟨xs, L, M, k, rfl, n6, k0, k3, hn, q⟩
  simp [w_l_apart, wD, key_c]
  have go : ∀ m : Int, 0 ≤ m → m ≤ 3 → (0 < m → 1 < xs.length) → wLoop (gN 5) (wSeq (wAsg 6 (wCall C_l_draw [] (wCons (wVar 0) (wCons (wVar 4) wNil))))
    (wSeq (wAsg 7 (wOp fMod (wOp fAdd (wOp fAdd (wVar 6) (wC (.int 1))) (wCall C_l_draw [] (wCons (wVar 0) (wCons (wOp fSub (wVar 4) (wC (.int 1))) wNil)))) (wVar 4)))
    (wAppend 3 (wTup (wCons (wOp fIx (wWk (wOp fDGet (wVar 1) (wC (.str "called")))) (wVar 6)) (wCons (wOp fIx (wWk (wOp fDGet (wVar 1) (wC (.str "called")))) (wVar 7)) wNil)))))) ⟨wRet (wCB fTuple (wCons (wVar 3) wNil)) ⟨fun δ => Q .non δ.n, Q, fun _ => False, fun _ => False⟩, Q, fun _ => False, fun _ => False⟩ (rng 0 m.toNat) ⟨[some (.sh .deck), some (.sh (wD xs L M)), some (.sh (.int k)), some (.ow (.lst [])), some (.sh (.int xs.length)), none, none, none], n⟩ := by
    intro m m0 m3 mx
    refine wLoop_inv (fun i δ => ∃ (ps : List (Str × Str)) (o5 o6 o7 : Option SV) (n' : Nat), ps.length ≤ i ∧ (∀ p ∈ ps, p.1 ∈ xs ∧ p.2 ∈ xs) ∧ n' ≤ n + 2 * i ∧ δ = ⟨[some (.sh .deck), some (.sh (wD xs L M)), some (.sh (.int k)), some (.ow (.lst (ps.map pairD))), some (.sh (.int xs.length)), o5, o6, o7], n'⟩) ⟨[], none, none, none, n, by simp, by simp, by omega, rfl⟩ ?_ ?_
    · rintro i d δ hd ⟨ps, o5, o6, o7, n', pl, hp, hn', rfl⟩ NN hNN
      obtain ⟨hi, rfl⟩ := rng_get hd
      have x2 := mx (by omega)
      simp
      refine draw_le (by omega) ((sz_len (k := 10) (by omega)).mono (by decide)) (by omega) fun a a0 a1 => ?_
      simp
      refine draw_le (by omega) ((Sz.of (k := 10) (by omega) (by omega)).mono (by decide)) (by omega) fun b b0 b1 => ?_
      have xp : (0 : Int) < xs.length := by omega
      obtain ⟨na, ha, ea⟩ := at_nm a0 a1
      obtain ⟨nb, hb, eb⟩ := at_nm (xs := xs) (x := (a + 1 + b).fmod xs.length) (Int.fmod_nonneg_of_pos _ xp) (Int.fmod_lt_of_pos _ xp)
      simp [wD, key_c, ea, eb]
      have xne : ¬ xs = [] := fun z => by simp [z] at x2
      have put := hNN _ ⟨ps ++ [(na, nb)], some (.sh (.int i)), some (.sh (.int a)), some (.sh (.int ((a + 1 + b).fmod xs.length))), n' + 1 + 1, by simp; omega, fun p hp' => by
        rcases List.mem_append.mp hp' with z | z
        · exact hp p z
        · rw [List.mem_singleton.mp z]; exact ⟨ha, hb⟩, by omega, rfl⟩
      simp [pairD, wD] at put
      exact ⟨xne, by omega, put⟩
    · rintro δ ⟨ps, o5, o6, o7, n', pl, hp, hn', rfl⟩
      rw [rng_len] at pl hn'
      simp
      exact q ps n' ⟨by omega, hp⟩ (by omega)
  refine ⟨fun h => ⟨by omega, by omega, ?_⟩, fun h => ?_⟩
  · simpa [wD] using go k k0 k3 fun _ => by omega
  · simpa [wD] using go 0 (by omega) (by omega) fun h => by omega
theorem len_l_are_parted : ∀ ds n Q, C_l_are_parted ds n Q → ds.length = 3 := fun ds n Q ⟨_, _, _, _, _, e, _⟩ => by rw [e]; rfl
theorem pf_l_are_parted : ∀ ds n Q, C_l_are_parted ds n Q → w_l_are_parted ⟨fun δ => Q .non δ.n, Q, fun _ => False, fun _ => False⟩ ⟨start3 N_l_are_parted ds, n⟩ := by
  rintro ds n Q ⟨xs, L, M, mv, ps, rfl, ⟨pl, hp⟩, hm, ml, q⟩
  simp [w_l_are_parted]
  refine wLoop_inv (fun i δ => (∀ p ∈ ps.take i, prtB xs mv p.1 p.2 = true) ∧ ∃ o3 o4 o5 o6 : Option SV, δ = ⟨[some (.sh (wD xs L M)), some (.sh (.tup (mv.map rowD))), some (.sh (.tup (ps.map pairD))), o3, o4, o5, o6, none], n⟩) ⟨by simp, none, none, none, none, rfl⟩ ?_ ?_
  · rintro i d δ hd ⟨hpt, o3, o4, o5, o6, rfl⟩ NN hNN
    rw [List.getElem?_map] at hd
    obtain ⟨p, hpi, rfl⟩ := Option.map_eq_some_iff.mp hd
    have pm := List.mem_of_getElem? hpi
    obtain ⟨ha, hb⟩ := hp p pm
    have ia : xs.idxOf p.1 < xs.length := List.idxOf_lt_length_of_mem ha
    have ib : xs.idxOf p.2 < xs.length := List.idxOf_lt_length_of_mem hb
    simp [pairD, wD, key_c]
    refine ⟨xs, rfl, ha, xs, rfl, hb, ?_⟩
    refine wLc_inv (fun i acc δ => acc = ((mv.take i).filter fun m => decide (gt m (xs.idxOf p.1) ≠ gt m (xs.idxOf p.2))).map rowD ∧ δ = ⟨[some (.sh (wD xs L M)), some (.sh (.tup (mv.map rowD))), some (.sh (.tup (ps.map pairD))), some (.sh (.str p.1)), some (.sh (.str p.2)), some (.sh (.int (xs.idxOf p.1 : Nat))), some (.sh (.int (xs.idxOf p.2 : Nat))), none], n⟩) ⟨rfl, by simp [wD]⟩ ?_ ?_
    · rintro j d acc δ hd ⟨rfl, rfl⟩ N2 hN2
      rw [List.getElem?_map] at hd
      obtain ⟨m, hmi, rfl⟩ := Option.map_eq_some_iff.mp hd
      have jl := (List.getElem?_eq_some_iff.mp hmi).1
      have ml' := hm m (List.mem_of_getElem? hmi)
      have g1 := gt_at (r := m) (j := xs.idxOf p.1) (by omega)
      have g2 := gt_at (r := m) (j := xs.idxOf p.2) (by omega)
      have fl := List.length_filter_le (fun m => decide (gt m (xs.idxOf p.1) ≠ gt m (xs.idxOf p.2))) (mv.take j)
      have put := hN2 _ _ ⟨rfl, rfl⟩
      rw [List.take_add_one, hmi, List.filter_append] at put
      simp at put fl
      simp [rowD, g1, g2]
      refine ⟨fun h => ⟨by omega, ?_⟩, fun h => ?_⟩
      · simpa [h, rowD] using put
      · simpa [h, rowD] using put
    · rintro acc δ ⟨rfl, rfl⟩
      rw [List.length_map, List.take_length]
      simp
      refine eqD_pl (Pl.map (f := rowD) fun r _ => Pl.tints r) Pl.nil (fun h => ?_) fun h => ?_
      · simp at h ⊢
        have : allP xs mv ps = false := by
          unfold allP
          refine Bool.eq_false_iff.mpr fun z => ?_
          have := List.all_eq_true.mp z p pm
          unfold prtB at this
          obtain ⟨m, mm, hmm⟩ := List.any_eq_true.mp this
          exact (of_decide_eq_true hmm) (h m mm)
        rw [this] at q; exact q
      · simp at h ⊢
        refine hNN _ ⟨fun p' hp' => ?_, _, _, _, _, rfl⟩
        rw [List.take_add_one, hpi] at hp'
        rcases List.mem_append.mp hp' with z | z
        · exact hpt p' z
        · simp at z; subst z
          obtain ⟨m, mm, hmm⟩ := h
          exact List.any_eq_true.mpr ⟨m, mm, decide_eq_true hmm⟩
  · rintro δ ⟨hpt, o3, o4, o5, o6, rfl⟩
    rw [List.length_map, List.take_length] at hpt
    simp
    have : allP xs mv ps = true := List.all_eq_true.mpr hpt
    rw [this] at q; exact q
theorem len_l_is_told : ∀ ds n Q, C_l_is_told ds n Q → ds.length = 4 := fun ds n Q ⟨_, _, _, _, _, _, e, _⟩ => by rw [e]; rfl
theorem pf_l_is_told : ∀ ds n Q, C_l_is_told ds n Q → w_l_is_told ⟨fun δ => Q .non δ.n, Q, fun _ => False, fun _ => False⟩ ⟨start3 N_l_is_told ds, n⟩ := by
  rintro ds n Q ⟨S, it, U, b1, b2, p, rfl, sh, v1, v2, q⟩
  simp [w_l_is_told]
  refine sh.repr (by decide) (by decide) ?_
  simp
  refine v1 _ _ ?_
  refine v2 _ _ ?_
  have s2 : Sh (.lst [.bl b1, .bl b2]) (.list [.bool b1, .bool b2]) 1 17 := Sh.lst ((ShAll.cons Sh.bl (ShAll.cons Sh.bl (ShAll.nil (h := 0)) (by decide)) (by decide)))
  refine s2.repr (by decide) (by decide) ?_
  simp
  refine s2.repr (by decide) (by decide) ?_
  simp
  refine sh.repr (by decide) (by decide) ?_
  simp
  exact q
theorem key_lots (a b c : D) : dAt [.inr "where", .inr "mixes", .inr "lots"] [a, b, c] (.inr "lots" : Key) = some c := rfl
theorem len_l_sure_world : ∀ ds n Q, C_l_sure_world ds n Q → ds.length = 1 := fun ds n Q ⟨e, _⟩ => by rw [e]; rfl
theorem sum54 {N : Nat} {r : List Int} (h1 : r.length = N) (h2 : ∀ x ∈ r, x.natAbs ≤ 9) (n6 : N ≤ 6) : r.sum.natAbs ≤ 54 := by
  have := sum_le (B := 9) h2
  omega
def t3_l_sure_world : WS :=
  (wSeq (wAsgO 6 (wDisp [((wC (.str "called")), (wCall C_l_called [] (wCons (wVar 0) (wCons (wVar 1) wNil)))), ((wC (.str "marks")), (wCall C_l_marks [] (wCons (wVar 0) (wCons (wVar 1) (wCons (wVar 2) (wCons (wCall C_l_draw [] (wCons (wVar 0) (wCons (wC (.int 3)) wNil))) wNil))))))]))
    (wSeq (wDPut 6 (wLc (wItems asS (wOp fDGet (wVar 3) (wC (.str "lots")))) (gN 5) wYes (wTup (wCons (wVar 5) (wCons (wOp fMulB (wCB fSumB (wCons (wVar 5) wNil)) (wVar 2)) wNil))) [5]) (wC (.str "lines")))
    (wSeq (wFor (wItems asS (wOp fDGet (wVar 6) (wC (.str "marks")))) (gTup3 3 (gCons3 (gN 7) (gCons3 (gN 8) (gCons3 (gN 9) gNil3)))) (wAsg 4 (wOp fMulB (wVar 4) (wVar 9))))
    (wFreeA 6 (wRet (wTup (wCons (wVar 6) (wCons (wVar 2) (wCons (wCall C_l_own_form [] (wCons (wVar 3) (wCons (wVar 4) wNil))) wNil)))))))))
theorem p3_sure {Q : D → Nat → Prop} {N : Nat} {t b : Int} {wh : List Int} {mx lots : List (List Int)} {n : Nat} (hn : n + 60 ≤ mostDraws) (n1 : 1 ≤ N) (n6 : N ≤ 6) (t4 : t.natAbs ≤ 4) (pn : Pn N wh mx) (hl : ∀ r ∈ lots, Lot N wh mx r) (l3 : lots.length ≤ 3) (b1 : 1 ≤ b) (b3 : b ≤ 3)
    (q : ∀ (xs : List Str) (L : List (List Int × Int)) (M : List (List Int × Int × Int)) (F : Fm) (n' : Nat), Wrl xs L M t F → n' ≤ n + 60 → Q (.tup [wD xs L M, .int t, F.d]) n') :
    t3_l_sure_world ⟨fun δ => Q .non δ.n, Q, fun _ => False, fun _ => False⟩ ⟨[some (.sh .deck), some (.sh (.int N)), some (.sh (.int t)), some (.sh (plD wh mx lots)), some (.sh (.int b)), none, none, none, none, none], n⟩ := by
  simp [t3_l_sure_world]
  refine ⟨N, rfl, n6, by omega, fun xs n2 hxs s8 h2 => ?_⟩
  refine draw_le (by decide) (.n (by decide)) (by omega) fun k k0 k1 => ?_
  refine ⟨N, t, k, rfl, n6, by omega, k0, by omega, by omega, fun M n3 hM oM h3 => ?_⟩
  simp [plD, key_lots]
  refine wLc_inv (fun i acc δ => acc = ((lots.take i).map fun r => (r, r.sum * t)).map rowE ∧ δ = ⟨[some (.sh .deck), some (.sh (.int N)), some (.sh (.int t)), some (.sh (plD wh mx lots)), some (.sh (.int b)), none, some (.ow (.dct [.inr "called", .inr "marks"] [.ptup (xs.map D.str), .lst (M.map rstE)])), none, none, none], n3⟩) ⟨rfl, rfl⟩ ?_ ?_
  · rintro i d acc δ hd ⟨rfl, rfl⟩ NN hNN
    rw [List.getElem?_map] at hd
    obtain ⟨r, hr, rfl⟩ := Option.map_eq_some_iff.mp hd
    have il := (List.getElem?_eq_some_iff.mp hr).1
    obtain ⟨r1, r2, _⟩ := hl r (List.mem_of_getElem? hr)
    have sr := sum54 r1 r2 n6
    have cm : CMulW r.sum t := Sz.cmul (k := 10) (l := 10) (.of (by omega) (by omega)) (.of (by omega) (by omega)) (by decide)
    have put := hNN _ _ ⟨rfl, rfl⟩
    rw [List.take_add_one, hr] at put
    simp [rowE, rowD] at put ⊢
    refine ⟨r, .inr rfl, ?_⟩
    simp [cm]
    exact ⟨by omega, put⟩
  · rintro acc δ ⟨rfl, rfl⟩
    rw [List.length_map, List.take_length]
    simp
    rw [← List.map_map]
    have mlen : M.length ≤ 3 := by omega
    refine ⟨_, _, ⟨rfl, rfl⟩, by simp, _, rfl, _, rfl, ?_⟩
    refine wLoop_inv (fun i δ => ∃ (c : Int) (t7 t8 t9 : Option D), 1 ≤ c ∧ Sz (3 + 5 * i) c ∧ (∀ p ∈ M.take i, p.2.2 ∣ c) ∧
      δ = ⟨[some (.sh .deck), some (.sh (.int N)), some (.sh (.int t)), some (.sh (plD wh mx lots)), some (.sh (.int c)), none, some (.ow (wD xs (lots.map fun r => (r, r.sum * t)) M)), t7.map SV.sh, t8.map SV.sh, t9.map SV.sh], n3⟩) ⟨b, none, none, none, by omega, .of (by omega) (by omega), by simp, rfl⟩ ?_ ?_
    · rintro i d δ hd ⟨c, t7, t8, t9, c1, sc, hb, rfl⟩ NN hNN
      have il := (List.getElem?_eq_some_iff.mp hd).1
      rw [List.length_map] at il
      rw [List.getElem?_map] at hd
      obtain ⟨p, hp, rfl⟩ := Option.map_eq_some_iff.mp hd
      obtain ⟨o1, o2, o3, o4, o5⟩ := oM p (List.mem_of_getElem? hp)
      have sp : Sz 5 p.2.2 := .of (by omega) (by omega)
      simp [rstE, sc.cmul sp (by omega)]
      refine hNN _ ⟨c * p.2.2, some (rowD p.1), some (.int p.2.1), some (.int p.2.2), ?_, (sc.mul sp).mono (by omega), fun p' hp' => ?_, rfl⟩
      · have := Int.mul_le_mul c1 (show (1 : Int) ≤ p.2.2 by omega) (by decide) (by omega)
        simpa using this
      · rw [List.take_add_one, hp] at hp'
        rcases List.mem_append.mp hp' with z | z
        · exact Int.dvd_mul_of_dvd_left (hb p' z)
        · simp at z; subst z; exact Int.dvd_mul_left ..
    · rintro δ ⟨c, t7, t8, t9, c1, sc, hb, rfl⟩
      rw [List.length_map] at sc hb
      rw [List.take_length] at hb
      simp [wD]
      have ml : ∀ m ∈ mx, m.length = wh.length ∧ ∀ x ∈ m, Sz 10 x := fun m hm => ⟨by rw [pn.wl]; exact (pn.ml m hm).1, fun x hx => by have := (pn.ml m hm).2 x hx; exact .of (by omega) (by omega)⟩
      refine ⟨wh, mx, lots, c, rfl, by have := pn.mn; omega, by rw [pn.wl]; omega, ml, sc.mono (by omega), ?_⟩
      have mn := pn.mn
      have eL : ∀ p ∈ lots.map (fun r => (r, r.sum * t)), p.1 ∈ lots ∧ p.2 = p.1.sum * t := fun p hp => by
        obtain ⟨r, hr, rfl⟩ := List.mem_map.mp hp
        exact ⟨hr, rfl⟩
      have wt : SyT xs.length (lots.map fun r => (r, r.sum * t)) M := by
        rw [hxs]
        refine ⟨n6, by simp; omega, by omega, fun p hp => ?_, fun p hp => ?_⟩
        · exact ⟨(hl _ (eL p hp).1).1, (hl _ (eL p hp).1).2.1⟩
        · obtain ⟨o1, o2, o3, o4, o5⟩ := oM p hp
          exact ⟨o1, fun x hx => by have := o2 x hx; omega, by omega⟩
      have met : metB (lots.map fun r => (r, r.sum * t)) M t = true := by
        unfold metB
        rw [Bool.and_eq_true, List.all_eq_true, List.all_eq_true]
        refine ⟨fun p hp => decide_eq_true (eL p hp).2.symm, fun p hp => decide_eq_true ?_⟩
        rw [(oM p hp).2.2.1]
        exact Int.emod_eq_zero_of_dvd (Int.dvd_self_sub_emod)
      have put := q xs (lots.map fun r => (r, r.sum * t)) M (ownF wh mx c) n3 ⟨⟨wt, s8⟩, t4, met, ?_, by simp [ownF]; omega⟩ (by omega)
      · simpa [wD] using put
      · rw [hxs]
        refine own_ok pn n1 n6 (fun r hr => ?_) c1 (sc.mono (by omega)) fun p hp => ?_
        · obtain ⟨p, hp, rfl⟩ := List.mem_map.mp hr
          exact hl _ (eL p hp).1
        · obtain ⟨p', hp', rfl⟩ := List.mem_map.mp hp
          exact ⟨(oM p' hp').1, hb p' hp'⟩
theorem pf_l_sure_world : ∀ ds n Q, C_l_sure_world ds n Q → w_l_sure_world ⟨fun δ => Q .non δ.n, Q, fun _ => False, fun _ => False⟩ ⟨start3 N_l_sure_world ds, n⟩ := by
  rintro ds n Q ⟨rfl, hn, q⟩
  rw [show w_l_sure_world = wSeq _ (wSeq _ (wSeq _ t3_l_sure_world)) from rfl]
  simp
  refine draw_le (by decide) (.n (by decide)) (by omega) fun a a0 a1 => ?_
  simp
  refine draw_le (by decide) (.n (by decide)) (by omega) fun t t0 t1 => ?_
  simp
  obtain ⟨N, hN, n1, n6⟩ : ∃ N : Nat, 1 + a = (N : Int) ∧ 1 ≤ N ∧ N ≤ 6 := ⟨(1 + a).toNat, by omega, by omega, by omega⟩
  rw [hN]
  refine draw_le (by decide) (.n (by decide)) (by omega) fun g g0 g1 => ?_
  simp
  refine ⟨N, 1 + g, rfl, n1, n6, by omega, by omega, by omega, fun wh mx lots n4 pn hl lg h4 => ?_⟩
  refine draw_le (by decide) (.n (by decide)) (by omega) fun c c0 c1 => ?_
  simp [plD, key_lots]
  have go := fun (t' : Int) (h : t'.natAbs ≤ 4) => p3_sure (Q := Q) (N := N) (t := t') (b := 1 + c) (n := n4 + 1) (wh := wh) (mx := mx) (lots := lots) (by omega) n1 n6 h pn hl (by omega) (by omega) (by omega) fun xs L M F n' W hn' => q xs L M t' F n' W (by omega)
  refine wLc_inv (fun i acc δ => acc = ((lots.take i).map fun r => (((r.sum * (t - 4)).natAbs : Nat) : Int)).map D.int ∧ δ = ⟨[some (.sh .deck), some (.sh (.int N)), some (.sh (.int (t - 4))), some (.sh (plD wh mx lots)), some (.sh (.int (1 + c))), none, none, none, none, none], n4 + 1⟩) ⟨rfl, rfl⟩ ?_ ?_
  · rintro i d acc δ hd ⟨rfl, rfl⟩ NN hNN
    rw [List.getElem?_map] at hd
    obtain ⟨r, hr, rfl⟩ := Option.map_eq_some_iff.mp hd
    have il := (List.getElem?_eq_some_iff.mp hr).1
    obtain ⟨r1, r2, _⟩ := hl r (List.mem_of_getElem? hr)
    have sr := sum54 r1 r2 n6
    have cm : CMulW r.sum (t - 4) := Sz.cmul (k := 10) (l := 10) (.of (by omega) (by omega)) (.of (by omega) (by omega)) (by decide)
    have put := hNN _ _ ⟨rfl, rfl⟩
    rw [List.take_add_one, hr] at put
    simp at put
    simp [rowD]
    refine ⟨r, .inr rfl, ?_⟩
    simp [cm, abs_i]
    exact ⟨by omega, put⟩
  · rintro acc δ ⟨rfl, rfl⟩
    rw [List.length_map, List.take_length]
    refine ⟨_, rfl, fun z => ?_, fun m hm hy => ?_⟩
    · have z := congrArg List.length z
      simp at z
      simp [z] at lg; omega
    simp [plD] at go ⊢
    refine ⟨fun _ => ?_, fun _ => ?_⟩
    · exact go 0 (by decide)
    · exact go (t - 4) (by omega)
theorem sh_fm {N : Nat} {L : List (List Int)} {M : List (List Int × Int)} {F : Fm} (ok : FmOk N L M 400 F) (hN : N ≤ 6) : ∃ p, Sh F.d p 3 100000 := by
  have s1 : Sh (.int F.f) (.int F.f) 0 601 := Sh.int (ok.fb.mono (by decide))
  have s2 := Sh.tup (ShAll.ints (ns := F.fr) fun t ht => by
    obtain ⟨j, hj, e⟩ := List.getElem_of_mem ht
    obtain ⟨k, rfl, h1, _⟩ := ok.frt j t (by rw [List.getElem?_eq_getElem hj, e])
    have := ok.mv12
    exact (Sz.of (k := 10) (by omega) (by omega)).mono (by decide))
  obtain ⟨ps, s3⟩ := ShAll.mapB (g := rowD) (h := 1) (l := 4000) (as := F.mv) fun m hm => ⟨_, (Sh.tup (ShAll.ints (ns := m) fun x hx => (ok.sz m hm x hx).mono (by decide))).mono (by decide) (by have := (ok.mv m hm).1; omega)⟩
  have s4 := Sh.tup s3
  have m12 := ok.mv12
  have fl := ok.frl
  exact ⟨_, (Sh.tup (ShAll.cons s1 (ShAll.cons s2 (ShAll.cons s4 (ShAll.nil (h := 2)) (by decide)) (by decide)) (by decide))).mono (by decide) (by omega)⟩
theorem ok_form : OkS 10 "form" := OkS.of (by decide) (by decide +kernel)
theorem ok_alike : OkS 10 "alike" := OkS.of (by decide) (by decide +kernel)
section
variable {xs : List Str} {L : List (List Int × Int)} {M : List (List Int × Int × Int)} {t : Int} {F : Fm} {ps : List (Str × Str)} {n : Nat} {Q : D → Nat → Prop}
theorem sh_k (ht : t.natAbs ≤ 3000) : Sh (.int t) (.int t) 0 601 := Sh.int ((Sz.of (k := 20) (by omega) (by omega)).mono (by decide))
theorem in_nil : InP xs [] := ⟨by simp, by simp⟩
theorem told_form (wd : Wd xs L M) (ht : t.natAbs ≤ 3000) (ip : InP xs ps) (ok : FmOk xs.length (rowsOf L) (restsOf M) 400 F) {b1 b2 : Bool} (e1 : b1 = (metB L M t && allP xs F.mv ps)) (e2 : b2 = metB L M t) (q : Q (.bl true) n) :
    C_l_is_told [sysD (xs.map D.str) L M, .tup [.str "form", .int t, F.d], .tup (ps.map pairD), .lst [.bl b1, .bl b2]] n Q := by
  obtain ⟨p, sf⟩ := sh_fm ok wd.ok.n6
  have sh := Sh.tup (ShAll.cons (Sh.str ok_form) (ShAll.cons (sh_k ht) (ShAll.cons sf (ShAll.nil (h := 3)) (by decide)) (by decide)) (by decide))
  refine ⟨_, _, _, b1, b2, _, rfl, sh.mono (by decide) (by decide), fun n Q q => ?_, fun n Q q => ?_, q⟩
  · exact ⟨xs, L, M, t, F, ps, wd, ht, ip, .inl ⟨rfl, ok, by rw [← e1]; exact q⟩⟩
  · exact ⟨xs, L, M, t, F, [], wd, ht, in_nil, .inl ⟨rfl, ok, by rw [← e2]; simpa [allP] using q⟩⟩
theorem told_alike (F : Fm) (wd : Wd xs L M) (ht : t.natAbs ≤ 3000) (ip : InP xs ps) {b1 b2 : Bool} (e1 : b1 = (decide (ps = []) && (metB L M t && decide (0 < t)))) (e2 : b2 = (metB L M t && decide (0 < t))) (q : Q (.bl true) n) :
    C_l_is_told [sysD (xs.map D.str) L M, .tup [.str "alike", .int t], .tup (ps.map pairD), .lst [.bl b1, .bl b2]] n Q := by
  have sh := Sh.tup (ShAll.cons (Sh.str ok_alike) (ShAll.cons (sh_k ht) (ShAll.nil (h := 3)) (by decide)) (by decide))
  refine ⟨_, _, _, b1, b2, _, rfl, sh.mono (by decide) (by decide), fun n Q q => ?_, fun n Q q => ?_, q⟩
  · exact ⟨xs, L, M, t, F, ps, wd, ht, ip, .inr ⟨rfl, by rw [← e1]; exact q⟩⟩
  · exact ⟨xs, L, M, t, F, [], wd, ht, in_nil, .inr ⟨rfl, by rw [e2] at q; simpa using q⟩⟩
end
theorem cut_mem {ds : List D} {lo hi : Option Int} {d : D} (h : d ∈ L3.cutD ds lo hi) : d ∈ ds := List.mem_of_mem_drop (List.mem_of_mem_take h)
theorem cut_len {ds : List D} {lo hi : Option Int} : (L3.cutD ds lo hi).length ≤ ds.length := by unfold L3.cutD; simp; omega
theorem ix_fm (F : Fm) (Q : RD → Prop) : fIx F.d (.int 2) Q = Q (.sh (.tup (F.mv.map rowD))) := by
  have e : L2.atI [D.int F.f, .tup (F.fr.map D.int), .tup (F.mv.map rowD)] 2 = some (.tup (F.mv.map rowD)) := rfl
  simp [Fm.d, e]
theorem fm_at2 (F : Fm) : L2.atI [D.int F.f, .tup (F.fr.map D.int), .tup (F.mv.map rowD)] 2 = some (.tup (F.mv.map rowD)) := rfl
def t4_l_right : WS :=
  (wSeq (wFor (wItems asS (wOp fAdd (wOp fAdd (wSl (wVar 7) wNoP (wP (wC (.int 2)))) (wSl (wVar 7) (wP (wUn fNeg (wC (.int 1)))) wNoP)) (wLst (wCons (wOp fAdd (wOp fIx (wVar 7) (wC (.int 0))) (wC (.int 1))) wNil)))) (gN 8) (wSeq (wPar2 9 false 10 false (wOp (fIn false) (wVar 8) (wVar 7)) (wOp (fEq false) (wVar 5) (wTup wNil)))
    (wSeq (wIfS (wNot (wTest (wCall C_l_is_told [] (wCons (wVar 4) (wCons (wTup (wCons (wC (.str "alike")) (wCons (wVar 8) wNil))) (wCons (wVar 5) (wCons (wLst (wCons (wAndV (wVar 9) (wAndV (wVar 10) (wOp fGt (wVar 8) (wC (.int 0))))) (wCons (wAndV (wVar 9) (wOp fGt (wVar 8) (wC (.int 0)))) wNil))) wNil))))))) (wRet (wC (.bl false))) wNext)
    (wIfS (wNot (wTest (wCall C_l_is_told [] (wCons (wVar 4) (wCons (wTup (wCons (wC (.str "form")) (wCons (wVar 8) (wCons (wVar 3) wNil)))) (wCons (wVar 5) (wCons (wLst (wCons (wAndV (wVar 9) (wCall C_l_are_parted [] (wCons (wVar 1) (wCons (wOp fIx (wVar 3) (wC (.int 2))) (wCons (wVar 5) wNil))))) (wCons (wVar 9) wNil))) wNil))))))) (wRet (wC (.bl false))) wNext))))
    (wRet (wC (.bl true))))
theorem p4_right {Q : D → Nat → Prop} {xs : List Str} {L : List (List Int × Int)} {M : List (List Int × Int × Int)} {t h : Int} {F : Fm} {ps : List (Str × Str)} {same tl : List Int} {n : Nat} {o6 o8 : Option D} (W : Wrl xs L M t F) (ip : InP xs ps) (hs : same = h :: tl) (h5 : h ≤ 5)
    (hl : same.length ≤ 2000) (hb : ∀ k ∈ same, -60 ≤ k ∧ k ≤ 1100) (hin : ∀ k, -60 ≤ k → k ≤ 1100 → decide (k ∈ same) = metB L M k) (q : Q (.bl true) n) :
    t4_l_right ⟨fun δ => Q .non δ.n, Q, fun _ => False, fun _ => False⟩ ⟨[some (.sh .deck), some (.sh (wD xs L M)), some (.sh (.int t)), some (.sh F.d), some (.sh (sysD (xs.map D.str) L M)), some (.sh (.tup (ps.map pairD))), o6.map SV.sh, some (.sh (.lst (same.map D.int))), o8.map SV.sh, none, none], n⟩ := by
  have a0 : L2.atI (same.map D.int) 0 = some (.int h) := by rw [hs]; exact atI_zero _ _
  have hm : h ∈ same := by rw [hs]; simp
  simp [t4_l_right, a0]
  have l1 := cut_len (ds := same.map D.int) (lo := none) (hi := some 2)
  have l2 := cut_len (ds := same.map D.int) (lo := some (-1)) (hi := none)
  rw [List.length_map] at l1 l2
  refine ⟨by omega, by omega, ?_⟩
  refine wLoop_inv (fun i δ => ∃ o8 o9 o10 : Option D, δ = ⟨[some (.sh .deck), some (.sh (wD xs L M)), some (.sh (.int t)), some (.sh F.d), some (.sh (sysD (xs.map D.str) L M)), some (.sh (.tup (ps.map pairD))), o6.map SV.sh, some (.sh (.lst (same.map D.int))), o8.map SV.sh, o9.map SV.sh, o10.map SV.sh], n⟩) ⟨o8, none, none, rfl⟩ ?_ ?_
  · rintro i d δ hd ⟨o8, o9, o10, rfl⟩ NN hNN
    have mem : ∃ k : Int, d = .int k ∧ -60 ≤ k ∧ k ≤ 1100 := by
      have := List.mem_of_getElem? hd
      simp only [List.mem_append, List.mem_singleton] at this
      have go : ∀ {lo hi}, d ∈ L3.cutD (same.map D.int) lo hi → ∃ k : Int, d = .int k ∧ -60 ≤ k ∧ k ≤ 1100 := fun z => by
        obtain ⟨k, hk, rfl⟩ := List.mem_map.mp (cut_mem z)
        exact ⟨k, rfl, hb k hk⟩
      have b := hb h hm
      rcases this with z | z | z
      · exact go z
      · exact go z
      · exact ⟨h + 1, z, by omega, by omega⟩
    obtain ⟨k, rfl, k0, k1⟩ := mem
    have e := hin k k0 k1
    have kt : k.natAbs ≤ 3000 := by omega
    have put := hNN _ ⟨some (.int k), some (.bl (decide (k ∈ same))), some (.bl (decide (ps = []))), rfl⟩
    have ok4 : FmOk xs.length (rowsOf L) (restsOf M) 400 F := W.f.sz' (by decide)
    have m12 := W.f.mv12
    have part : ∀ (n : Nat) (Q : D → Nat → Prop), Q (.bl (allP xs F.mv ps)) n → C_l_are_parted [wD xs L M, .tup (F.mv.map rowD), .tup (ps.map pairD)] n Q := fun n Q q => ⟨xs, L, M, F.mv, ps, rfl, ip, fun m hm => (W.f.mv m hm).1, by omega, q⟩
    by_cases mk : k ∈ same
    · have e' : metB L M k = true := by rw [← e]; exact decide_eq_true mk
      simp [mk]
      refine eqD_pl (pl_pairs W.wd.s ip) Pl.tnil (fun z => ?_) fun z => ?_
      · have z := tups_nil.mp z
        simp
        refine told_alike F W.wd kt ip (by rw [e', decide_eq_true z]; simp) (by rw [e']; simp) ?_
        simp [ix_fm]
        refine part _ _ ?_
        refine told_form W.wd kt ip ok4 (by rw [e']; simp) (by rw [e']) ?_
        simp
        simpa [mk, z] using put
      · have z : ¬ ps = [] := fun y => z (tups_nil.mpr y)
        simp
        refine told_alike F W.wd kt ip (by rw [e', decide_eq_false z]; simp) (by rw [e']; simp) ?_
        simp [ix_fm]
        refine part _ _ ?_
        refine told_form W.wd kt ip ok4 (by rw [e']; simp) (by rw [e']) ?_
        simp
        simpa [mk, z] using put
    · have e' : metB L M k = false := by rw [← e]; exact decide_eq_false mk
      simp [mk]
      refine eqD_pl (pl_pairs W.wd.s ip) Pl.tnil (fun z => ?_) fun z => ?_
      · have z := tups_nil.mp z
        simp
        refine told_alike F W.wd kt ip (by rw [e']; simp) (by rw [e']; simp) ?_
        simp
        refine told_form W.wd kt ip ok4 (by rw [e']; simp) (by rw [e']) ?_
        simp
        simpa [mk, z] using put
      · have z : ¬ ps = [] := fun y => z (tups_nil.mpr y)
        simp
        refine told_alike F W.wd kt ip (by rw [e']; simp) (by rw [e']; simp) ?_
        simp
        refine told_form W.wd kt ip ok4 (by rw [e']; simp) (by rw [e']) ?_
        simp
        simpa [mk, z] using put
  · rintro δ ⟨o8, o9, o10, rfl⟩
    simp
    exact q
def sameK (L : List (List Int × Int)) (M : List (List Int × Int × Int)) (i : Nat) : List Int := ((List.range i).map fun k : Nat => -60 + (k : Int)).filter fun k => metB L M k
theorem same_snoc (L : List (List Int × Int)) (M : List (List Int × Int × Int)) (i : Nat) : sameK L M (i + 1) = sameK L M i ++ (if metB L M (-60 + (i : Int)) then [-60 + (i : Int)] else []) := by
  unfold sameK
  rw [List.range_succ, List.map_append, List.filter_append]
  by_cases h : metB L M (-60 + (i : Int)) <;> simp [h]
theorem same_len (L : List (List Int × Int)) (M : List (List Int × Int × Int)) (i : Nat) : (sameK L M i).length ≤ i := by
  unfold sameK
  exact Nat.le_trans (List.length_filter_le _ _) (by simp)
theorem same_mem {L : List (List Int × Int)} {M : List (List Int × Int × Int)} {i : Nat} {k : Int} : k ∈ sameK L M i ↔ metB L M k = true ∧ -60 ≤ k ∧ k < -60 + i := by
  unfold sameK
  rw [List.mem_filter, List.mem_map]
  constructor
  · rintro ⟨⟨j, hj, rfl⟩, h⟩
    have := List.mem_range.mp hj
    exact ⟨h, by omega, by omega⟩
  · rintro ⟨h, a, b⟩
    exact ⟨⟨(k + 60).toNat, List.mem_range.mpr (by omega), by omega⟩, h⟩
theorem same_up (L : List (List Int × Int)) (M : List (List Int × Int × Int)) (i : Nat) : (sameK L M i).Pairwise (· < ·) := by
  unfold sameK
  refine List.Pairwise.filter _ ?_
  rw [List.pairwise_map]
  exact List.Pairwise.imp (fun h => by omega) List.pairwise_lt_range
theorem len_l_right : ∀ ds n Q, C_l_right ds n Q → ds.length = 1 := fun ds n Q ⟨e, _⟩ => by rw [e]; rfl
theorem pf_l_right : ∀ ds n Q, C_l_right ds n Q → w_l_right ⟨fun δ => Q .non δ.n, Q, fun _ => False, fun _ => False⟩ ⟨start3 N_l_right ds, n⟩ := by
  rintro ds n Q ⟨rfl, hn, q⟩
  rw [show w_l_right = wSeq _ (wSeq _ (wSeq _ (wSeq _ t4_l_right))) from rfl]
  simp
  refine ⟨rfl, by omega, fun xs L M t F n1 W h1 => ?_⟩
  have t4 := W.t4
  have n6 := W.wd.ok.n6
  simp
  refine ⟨xs, L, M, rfl, ?_⟩
  refine draw_le (by decide) (.n (by decide)) (by omega) fun k k0 k1 => ?_
  refine ⟨xs, L, M, k, rfl, n6, k0, by omega, by omega, fun ps n2 ip h2 => ?_⟩
  have rL : ∀ r ∈ rowsOf L, r.length = xs.length := fun r hr => by
    obtain ⟨p, hp, rfl⟩ := List.mem_map.mp hr
    exact (W.wd.ok.l p hp).1
  have rM : ∀ p ∈ restsOf M, p.1.length = xs.length := fun p hp => by
    obtain ⟨p', hp', rfl⟩ := List.mem_map.mp hp
    exact (W.wd.ok.m p' hp').1
  refine ⟨_, _, _, 100, F, rfl, W.f, by decide, by omega, rL, rM, W.f6, by omega, fun F1 n3 ok1 h3 => ?_⟩
  simp
  have all : ∀ d ∈ [F.d, F1.d], ∃ Fx : Fm, d = Fx.d ∧ FmOk xs.length (rowsOf L) (restsOf M) 400 Fx := fun d hd => by
    simp at hd
    rcases hd with rfl | rfl
    · exact ⟨F, rfl, W.f.sz' (by decide)⟩
    · exact ⟨F1, rfl, ok1.sz' (by decide)⟩
  refine wLoop_inv (fun j δ => ∃ (o6 : Option D), δ = ⟨[some (.sh .deck), some (.sh (wD xs L M)), some (.sh (.int t)), some (.sh F.d), some (.sh (sysD (xs.map D.str) L M)), some (.sh (.tup (ps.map pairD))), o6.map SV.sh, none, none, none, none], n3⟩) ⟨none, rfl⟩ ?_ ?_
  · rintro j d δ hd ⟨o6, rfl⟩ NN hNN
    obtain ⟨Fx, rfl, okx⟩ := all d (List.mem_of_getElem? hd)
    have m12 := okx.mv12
    simp [ix_fm]
    refine ⟨xs, L, M, Fx.mv, ps, rfl, ip, fun m hm => (okx.mv m hm).1, by omega, ?_⟩
    refine told_form W.wd (by omega) ip okx (by rw [W.met]; simp) (by rw [W.met]) ?_
    simp
    exact hNN _ ⟨some Fx.d, rfl⟩
  · rintro δ ⟨o6, rfl⟩
    simp
    refine ⟨-60, 1101, ⟨rfl, rfl⟩, ⟨by decide, by decide, by decide, by decide⟩, ?_⟩
    refine wLc_inv (fun i acc δ => acc = (sameK L M i).map D.int ∧ δ = ⟨[some (.sh .deck), some (.sh (wD xs L M)), some (.sh (.int t)), some (.sh F.d), some (.sh (sysD (xs.map D.str) L M)), some (.sh (.tup (ps.map pairD))), o6.map SV.sh, none, none, none, none], n3⟩) ⟨rfl, rfl⟩ ?_ ?_
    · rintro i d acc δ hd ⟨rfl, rfl⟩ NN hNN
      obtain ⟨hi, rfl⟩ := rng_get hd
      have hi : i < 1161 := by simpa using hi
      have sl := same_len L M i
      rw [same_snoc] at hNN
      simp [wD, key_c, repT]
      refine ⟨by omega, ?_⟩
      refine ⟨xs, L, M, -60 + (i : Int), by simp [wD, rowD], W.wd.ok, by omega, ?_⟩
      simp
      refine ⟨fun h => ⟨by omega, hNN _ _ ⟨by simp [h], by simp [wD]⟩⟩, fun h => hNN _ _ ⟨by simp [h], by simp [wD]⟩⟩
    · rintro acc δ ⟨rfl, rfl⟩
      have e : (rng (-60) ((1101 : Int) - -60).toNat).length = 1161 := by rw [rng_len]; decide
      rw [e]
      have tm : t ∈ sameK L M 1161 := same_mem.mpr ⟨W.met, by omega, by omega⟩
      obtain ⟨h, tl, hs⟩ : ∃ h tl, sameK L M 1161 = h :: tl := by
        cases z : sameK L M 1161 with
        | nil => rw [z] at tm; cases tm
        | cons h tl => exact ⟨h, tl, rfl⟩
      have h5 : h ≤ 5 := by
        have up := same_up L M 1161
        rw [hs] at up tm
        rcases List.mem_cons.mp tm with z | z
        · omega
        · have := (List.pairwise_cons.mp up).1 t z
          omega
      have sl := same_len L M 1161
      have mem := @same_mem L M 1161
      generalize sameK L M 1161 = same at *
      simp
      refine p4_right (o6 := o6) (o8 := none) W ip hs h5 (by omega) (fun k hk => ?_) (fun k a b => ?_) (q n3 (by omega))
      · have := mem.mp hk
        omega
      · by_cases z : k ∈ same
        · rw [decide_eq_true z, (mem.mp z).1]
        · rw [decide_eq_false z]
          cases y : metB L M k with
          | false => rfl
          | true => exact absurd (mem.mpr ⟨y, a, by omega⟩) z
theorem pf_law : w_law ⟨fun _ => False, fun d _ => d = .bl true, fun _ => False, fun _ => False⟩ ⟨none :: some (.sh .deck) :: List.replicate (N_law.length - 2) none, 0⟩ := by
  simp [w_law]
  refine wLoop_inv (fun i δ => ∃ (o2 : Option D) (n' : Nat), n' ≤ i * 300 ∧ δ = ⟨[none, some (.sh .deck), o2.map SV.sh], n'⟩) ⟨none, 0, by omega, rfl⟩ ?_ ?_
  · rintro i d δ hd ⟨o2, n', hn, rfl⟩ NN hNN
    obtain ⟨hi, rfl⟩ := rng_get hd
    simp
    refine ⟨rfl, by unfold mostDraws; omega, fun n2 h2 => ?_⟩
    simp
    exact hNN _ ⟨some (.int i), n2, by omega, rfl⟩
  · rintro δ ⟨o2, n', hn, rfl⟩
    simp
end Pg
namespace Pg
open PySem PySem.Spec PyProof.Rows L2 L3
def top (i : Nat) : Stmt := PySem.Challenge.pw_whateverboxes_k29_right_forms_by_any_han.main.body.getD i (.Pass ⟨0, 0, 0, 0⟩)
abbrev s_product_sum : Stmt := top 6
theorem sc_product_sum : FnScope N_product_sum ["row", "other"] (defScope s_product_sum) := ⟨rfl, rfl, rfl, by decide +kernel, rfl, by decide +kernel, by decide +kernel⟩
abbrev s_System_uinitu : Stmt := inClass (top 44) 0
theorem sc_System_uinitu : FnScope N_System_uinitu ["self", "names", "rows", "rests"] (defScope s_System_uinitu) := ⟨rfl, rfl, rfl, by decide +kernel, rfl, by decide +kernel, by decide +kernel⟩
abbrev s_System_fulfils : Stmt := inClass (top 44) 3
theorem sc_System_fulfils : FnScope N_System_fulfils ["self", "numbers"] (defScope s_System_fulfils) := ⟨rfl, rfl, rfl, by decide +kernel, rfl, by decide +kernel, by decide +kernel⟩
abbrev s_is_integer : Stmt := top 48
theorem sc_is_integer : FnScope N_is_integer ["thing"] (defScope s_is_integer) := ⟨rfl, rfl, rfl, by decide +kernel, rfl, by decide +kernel, by decide +kernel⟩
abbrev s_is_move : Stmt := top 54
theorem sc_is_move : FnScope N_is_move ["system", "thing"] (defScope s_is_move) := ⟨rfl, rfl, rfl, by decide +kernel, rfl, by decide +kernel, by decide +kernel⟩
abbrev s_is_front : Stmt := top 55
theorem sc_is_front : FnScope N_is_front ["factor", "moves", "at", "thing"] (defScope s_is_front) := ⟨rfl, rfl, rfl, by decide +kernel, rfl, by decide +kernel, by decide +kernel⟩
abbrev s_form_holds : Stmt := top 56
theorem sc_form_holds : FnScope N_form_holds ["system", "thing"] (defScope s_form_holds) := ⟨rfl, rfl, rfl, by decide +kernel, rfl, by decide +kernel, by decide +kernel⟩
abbrev s_places_of_pair : Stmt := top 72
theorem sc_places_of_pair : FnScope N_places_of_pair ["system", "pair"] (defScope s_places_of_pair) := ⟨rfl, rfl, rfl, by decide +kernel, rfl, by decide +kernel, by decide +kernel⟩
abbrev s_is_parted : Stmt := top 74
theorem sc_is_parted : FnScope N_is_parted ["system", "moves", "pair"] (defScope s_is_parted) := ⟨rfl, rfl, rfl, by decide +kernel, rfl, by decide +kernel, by decide +kernel⟩
abbrev s_is_alike : Stmt := top 75
theorem sc_is_alike : FnScope N_is_alike ["system", "thing"] (defScope s_is_alike) := ⟨rfl, rfl, rfl, by decide +kernel, rfl, by decide +kernel, by decide +kernel⟩
abbrev s_is_modulo_right : Stmt := top 76
theorem sc_is_modulo_right : FnScope N_is_modulo_right ["system", "parts"] (defScope s_is_modulo_right) := ⟨rfl, rfl, rfl, by decide +kernel, rfl, by decide +kernel, by decide +kernel⟩
abbrev s_is_alike_right : Stmt := top 77
theorem sc_is_alike_right : FnScope N_is_alike_right ["system", "parts"] (defScope s_is_alike_right) := ⟨rfl, rfl, rfl, by decide +kernel, rfl, by decide +kernel, by decide +kernel⟩
abbrev s_is_never_right : Stmt := top 78
theorem sc_is_never_right : FnScope N_is_never_right ["system", "parts", "unlike"] (defScope s_is_never_right) := ⟨rfl, rfl, rfl, by decide +kernel, rfl, by decide +kernel, by decide +kernel⟩
abbrev s_is_form_right : Stmt := top 79
theorem sc_is_form_right : FnScope N_is_form_right ["system", "parts", "unlike"] (defScope s_is_form_right) := ⟨rfl, rfl, rfl, by decide +kernel, rfl, by decide +kernel, by decide +kernel⟩
abbrev s_is_digits_right : Stmt := top 80
theorem sc_is_digits_right : FnScope N_is_digits_right ["system", "parts", "unlike"] (defScope s_is_digits_right) := ⟨rfl, rfl, rfl, by decide +kernel, rfl, by decide +kernel, by decide +kernel⟩
abbrev s_verdict_holds : Stmt := top 81
theorem sc_verdict_holds : FnScope N_verdict_holds ["system", "thing", "unlike"] (defScope s_verdict_holds) := ⟨rfl, rfl, rfl, by decide +kernel, rfl, by decide +kernel, by decide +kernel⟩
abbrev s_l_deck : Stmt := top 83
theorem sc_l_deck : FnScope N_l_deck ["_law_script"] (defScope s_l_deck) := ⟨rfl, rfl, rfl, by decide +kernel, rfl, by decide +kernel, by decide +kernel⟩
abbrev s_l_draw : Stmt := top 84
theorem sc_l_draw : FnScope N_l_draw ["_law_deck_here", "_law_many"] (defScope s_l_draw) := ⟨rfl, rfl, rfl, by decide +kernel, rfl, by decide +kernel, by decide +kernel⟩
abbrev s_l_dot : Stmt := top 86
theorem sc_l_dot : FnScope N_l_dot ["_law_a", "_law_b"] (defScope s_l_dot) := ⟨rfl, rfl, rfl, by decide +kernel, rfl, by decide +kernel, by decide +kernel⟩
abbrev s_l_code : Stmt := top 87
theorem sc_l_code : FnScope N_l_code ["_law_w"] (defScope s_l_code) := ⟨rfl, rfl, rfl, by decide +kernel, rfl, by decide +kernel, by decide +kernel⟩
abbrev s_l_is_met : Stmt := top 88
theorem sc_l_is_met : FnScope N_l_is_met ["_law_w", "_law_some"] (defScope s_l_is_met) := ⟨rfl, rfl, rfl, by decide +kernel, rfl, by decide +kernel, by decide +kernel⟩
abbrev s_l_called : Stmt := top 89
theorem sc_l_called : FnScope N_l_called ["_law_deck_here", "_law_n"] (defScope s_l_called) := ⟨rfl, rfl, rfl, by decide +kernel, rfl, by decide +kernel, by decide +kernel⟩
abbrev s_l_planted : Stmt := top 90
theorem sc_l_planted : FnScope N_l_planted ["_law_deck_here", "_law_n", "_law_many"] (defScope s_l_planted) := ⟨rfl, rfl, rfl, by decide +kernel, rfl, by decide +kernel, by decide +kernel⟩
abbrev s_l_marks : Stmt := top 91
theorem sc_l_marks : FnScope N_l_marks ["_law_deck_here", "_law_n", "_law_t", "_law_many"] (defScope s_l_marks) := ⟨rfl, rfl, rfl, by decide +kernel, rfl, by decide +kernel, by decide +kernel⟩
abbrev s_l_own_form : Stmt := top 92
theorem sc_l_own_form : FnScope N_l_own_form ["_law_planted_here", "_law_by"] (defScope s_l_own_form) := ⟨rfl, rfl, rfl, by decide +kernel, rfl, by decide +kernel, by decide +kernel⟩
abbrev s_l_rewritten : Stmt := top 93
theorem sc_l_rewritten : FnScope N_l_rewritten ["_law_deck_here", "_law_it"] (defScope s_l_rewritten) := ⟨rfl, rfl, rfl, by decide +kernel, rfl, by decide +kernel, by decide +kernel⟩
abbrev s_l_apart : Stmt := top 94
theorem sc_l_apart : FnScope N_l_apart ["_law_deck_here", "_law_w", "_law_many"] (defScope s_l_apart) := ⟨rfl, rfl, rfl, by decide +kernel, rfl, by decide +kernel, by decide +kernel⟩
abbrev s_l_are_parted : Stmt := top 95
theorem sc_l_are_parted : FnScope N_l_are_parted ["_law_w", "_law_lots", "_law_apart_here"] (defScope s_l_are_parted) := ⟨rfl, rfl, rfl, by decide +kernel, rfl, by decide +kernel, by decide +kernel⟩
abbrev s_l_sure_world : Stmt := top 96
theorem sc_l_sure_world : FnScope N_l_sure_world ["_law_deck_here"] (defScope s_l_sure_world) := ⟨rfl, rfl, rfl, by decide +kernel, rfl, by decide +kernel, by decide +kernel⟩
abbrev s_l_is_told : Stmt := top 97
theorem sc_l_is_told : FnScope N_l_is_told ["_law_code_here", "_law_it", "_law_apart_here", "_law_due"] (defScope s_l_is_told) := ⟨rfl, rfl, rfl, by decide +kernel, rfl, by decide +kernel, by decide +kernel⟩
abbrev s_l_right : Stmt := top 98
theorem sc_l_right : FnScope N_l_right ["_law_deck_here"] (defScope s_l_right) := ⟨rfl, rfl, rfl, by decide +kernel, rfl, by decide +kernel, by decide +kernel⟩
abbrev s_law : Stmt := top 99
theorem sc_law : FnScope N_law ["_law_script"] (defScope s_law) := ⟨rfl, rfl, rfl, by decide +kernel, rfl, by decide +kernel, by decide +kernel⟩
structure Txt (K : PySem.W.Frag) (mg : Str → Option Value) where
  f_product_sum : Addr
  fd_product_sum : FuncData
  F_product_sum : Fun K "product_sum" "product_sum" s_product_sum f_product_sum fd_product_sum
  m_product_sum : mg "product_sum" = some (.ref f_product_sum)
  f_System_uinitu : Addr
  fd_System_uinitu : FuncData
  da_System_uinitu_0 : Addr
  dp_System_uinitu_0 : ∃ (o : Obj) (n : Nat), K.lookup da_System_uinitu_0 = some o ∧ o.cls = .type "tuple" ∧ o.data = .seq #[] n
  FD_System_uinitu : FunD K "__init__" "System.__init__" (defArgs s_System_uinitu) (defBody s_System_uinitu) (defScope s_System_uinitu) [.ref da_System_uinitu_0] [] f_System_uinitu fd_System_uinitu
  f_System_fulfils : Addr
  fd_System_fulfils : FuncData
  F_System_fulfils : Fun K "fulfils" "System.fulfils" s_System_fulfils f_System_fulfils fd_System_fulfils
  f_is_integer : Addr
  fd_is_integer : FuncData
  F_is_integer : Fun K "is_integer" "is_integer" s_is_integer f_is_integer fd_is_integer
  m_is_integer : mg "is_integer" = some (.ref f_is_integer)
  f_is_move : Addr
  fd_is_move : FuncData
  F_is_move : Fun K "is_move" "is_move" s_is_move f_is_move fd_is_move
  m_is_move : mg "is_move" = some (.ref f_is_move)
  f_is_front : Addr
  fd_is_front : FuncData
  F_is_front : Fun K "is_front" "is_front" s_is_front f_is_front fd_is_front
  m_is_front : mg "is_front" = some (.ref f_is_front)
  f_form_holds : Addr
  fd_form_holds : FuncData
  F_form_holds : Fun K "form_holds" "form_holds" s_form_holds f_form_holds fd_form_holds
  m_form_holds : mg "form_holds" = some (.ref f_form_holds)
  f_places_of_pair : Addr
  fd_places_of_pair : FuncData
  F_places_of_pair : Fun K "places_of_pair" "places_of_pair" s_places_of_pair f_places_of_pair fd_places_of_pair
  m_places_of_pair : mg "places_of_pair" = some (.ref f_places_of_pair)
  f_is_parted : Addr
  fd_is_parted : FuncData
  F_is_parted : Fun K "is_parted" "is_parted" s_is_parted f_is_parted fd_is_parted
  m_is_parted : mg "is_parted" = some (.ref f_is_parted)
  f_is_alike : Addr
  fd_is_alike : FuncData
  F_is_alike : Fun K "is_alike" "is_alike" s_is_alike f_is_alike fd_is_alike
  m_is_alike : mg "is_alike" = some (.ref f_is_alike)
  f_is_modulo_right : Addr
  fd_is_modulo_right : FuncData
  F_is_modulo_right : Fun K "is_modulo_right" "is_modulo_right" s_is_modulo_right f_is_modulo_right fd_is_modulo_right
  m_is_modulo_right : mg "is_modulo_right" = some (.ref f_is_modulo_right)
  f_is_alike_right : Addr
  fd_is_alike_right : FuncData
  F_is_alike_right : Fun K "is_alike_right" "is_alike_right" s_is_alike_right f_is_alike_right fd_is_alike_right
  m_is_alike_right : mg "is_alike_right" = some (.ref f_is_alike_right)
  f_is_never_right : Addr
  fd_is_never_right : FuncData
  F_is_never_right : Fun K "is_never_right" "is_never_right" s_is_never_right f_is_never_right fd_is_never_right
  m_is_never_right : mg "is_never_right" = some (.ref f_is_never_right)
  f_is_form_right : Addr
  fd_is_form_right : FuncData
  F_is_form_right : Fun K "is_form_right" "is_form_right" s_is_form_right f_is_form_right fd_is_form_right
  m_is_form_right : mg "is_form_right" = some (.ref f_is_form_right)
  f_is_digits_right : Addr
  fd_is_digits_right : FuncData
  F_is_digits_right : Fun K "is_digits_right" "is_digits_right" s_is_digits_right f_is_digits_right fd_is_digits_right
  m_is_digits_right : mg "is_digits_right" = some (.ref f_is_digits_right)
  f_verdict_holds : Addr
  fd_verdict_holds : FuncData
  da_verdict_holds_0 : Addr
  dp_verdict_holds_0 : ∃ (o : Obj) (n : Nat), K.lookup da_verdict_holds_0 = some o ∧ o.cls = .type "tuple" ∧ o.data = .seq #[] n
  FD_verdict_holds : FunD K "verdict_holds" "verdict_holds" (defArgs s_verdict_holds) (defBody s_verdict_holds) (defScope s_verdict_holds) [] [("unlike", .ref da_verdict_holds_0)] f_verdict_holds fd_verdict_holds
  m_verdict_holds : mg "verdict_holds" = some (.ref f_verdict_holds)
  f_l_deck : Addr
  fd_l_deck : FuncData
  F_l_deck : Fun K "_law_deck" "_law_deck" s_l_deck f_l_deck fd_l_deck
  m_l_deck : mg "_law_deck" = some (.ref f_l_deck)
  f_l_draw : Addr
  fd_l_draw : FuncData
  F_l_draw : Fun K "_law_draw" "_law_draw" s_l_draw f_l_draw fd_l_draw
  m_l_draw : mg "_law_draw" = some (.ref f_l_draw)
  f_l_dot : Addr
  fd_l_dot : FuncData
  F_l_dot : Fun K "_law_dot" "_law_dot" s_l_dot f_l_dot fd_l_dot
  m_l_dot : mg "_law_dot" = some (.ref f_l_dot)
  f_l_code : Addr
  fd_l_code : FuncData
  F_l_code : Fun K "_law_code" "_law_code" s_l_code f_l_code fd_l_code
  m_l_code : mg "_law_code" = some (.ref f_l_code)
  f_l_is_met : Addr
  fd_l_is_met : FuncData
  F_l_is_met : Fun K "_law_is_met" "_law_is_met" s_l_is_met f_l_is_met fd_l_is_met
  m_l_is_met : mg "_law_is_met" = some (.ref f_l_is_met)
  f_l_called : Addr
  fd_l_called : FuncData
  F_l_called : Fun K "_law_called" "_law_called" s_l_called f_l_called fd_l_called
  m_l_called : mg "_law_called" = some (.ref f_l_called)
  f_l_planted : Addr
  fd_l_planted : FuncData
  F_l_planted : Fun K "_law_planted" "_law_planted" s_l_planted f_l_planted fd_l_planted
  m_l_planted : mg "_law_planted" = some (.ref f_l_planted)
  f_l_marks : Addr
  fd_l_marks : FuncData
  F_l_marks : Fun K "_law_marks" "_law_marks" s_l_marks f_l_marks fd_l_marks
  m_l_marks : mg "_law_marks" = some (.ref f_l_marks)
  f_l_own_form : Addr
  fd_l_own_form : FuncData
  F_l_own_form : Fun K "_law_own_form" "_law_own_form" s_l_own_form f_l_own_form fd_l_own_form
  m_l_own_form : mg "_law_own_form" = some (.ref f_l_own_form)
  f_l_rewritten : Addr
  fd_l_rewritten : FuncData
  F_l_rewritten : Fun K "_law_rewritten" "_law_rewritten" s_l_rewritten f_l_rewritten fd_l_rewritten
  m_l_rewritten : mg "_law_rewritten" = some (.ref f_l_rewritten)
  f_l_apart : Addr
  fd_l_apart : FuncData
  F_l_apart : Fun K "_law_apart" "_law_apart" s_l_apart f_l_apart fd_l_apart
  m_l_apart : mg "_law_apart" = some (.ref f_l_apart)
  f_l_are_parted : Addr
  fd_l_are_parted : FuncData
  F_l_are_parted : Fun K "_law_are_parted" "_law_are_parted" s_l_are_parted f_l_are_parted fd_l_are_parted
  m_l_are_parted : mg "_law_are_parted" = some (.ref f_l_are_parted)
  f_l_sure_world : Addr
  fd_l_sure_world : FuncData
  F_l_sure_world : Fun K "_law_sure_world" "_law_sure_world" s_l_sure_world f_l_sure_world fd_l_sure_world
  m_l_sure_world : mg "_law_sure_world" = some (.ref f_l_sure_world)
  f_l_is_told : Addr
  fd_l_is_told : FuncData
  F_l_is_told : Fun K "_law_is_told" "_law_is_told" s_l_is_told f_l_is_told fd_l_is_told
  m_l_is_told : mg "_law_is_told" = some (.ref f_l_is_told)
  f_l_right : Addr
  fd_l_right : FuncData
  F_l_right : Fun K "_law_right" "_law_right" s_l_right f_l_right fd_l_right
  m_l_right : mg "_law_right" = some (.ref f_l_right)
  f_law : Addr
  fd_law : FuncData
  F_law : Fun K "law" "law" s_law f_law fd_law
  m_law : mg "law" = some (.ref f_law)
  C_System : Addr
  mC_System : mg "System" = some (.ref C_System)
  cl_System : Cls K C_System
  mk_System : Mk K C_System f_System_uinitu
  na_System_names : NoAttr K C_System "names"
  na_System_rows : NoAttr K C_System "rows"
  na_System_rests : NoAttr K C_System "rests"
  me_System_fulfils : Meth K C_System "fulfils" f_System_fulfils
  z_abs : mg "abs" = none
  z_all : mg "all" = none
  z_any : mg "any" = none
  z_bool : mg "bool" = none
  z_enumerate : mg "enumerate" = none
  z_int : mg "int" = none
  z_isinstance : mg "isinstance" = none
  z_len : mg "len" = none
  z_list : mg "list" = none
  z_max : mg "max" = none
  z_range : mg "range" = none
  z_repr : mg "repr" = none
  z_set : mg "set" = none
  z_sorted : mg "sorted" = none
  z_str : mg "str" = none
  z_sum : mg "sum" = none
  z_tuple : mg "tuple" = none
  z_zip : mg "zip" = none
  g_ALIKE : ∃ t, mg "ALIKE" = some (.str "alike" t)
  g_DIGITS_verdicts : ∃ t, mg "DIGITS_verdicts" = some (.str "digits" t)
  g_FORM : ∃ t, mg "FORM" = some (.str "form" t)
  g_FORM_PARTS : ∃ t, mg "FORM_PARTS" = some (.int 3 t)
  g_MODULO_verdicts : ∃ t, mg "MODULO_verdicts" = some (.str "modulo" t)
  g_MOST_MOVES : ∃ t, mg "MOST_MOVES" = some (.int 12 t)
  g_NEVER : ∃ t, mg "NEVER" = some (.str "never" t)
abbrev Txt.cls {K : PySem.W.Frag} {mg : Str → Option Value} (T : Txt K mg) : Nat → Addr := fun t => [T.C_System].getD t 0
abbrev fld : Nat → List Str := fun t => ([["names", "rows", "rests"]] : List (List Str)).getD t []
section
variable {P : Program} {w : World} {K : PySem.W.Frag} {mg : Str → Option Value} {base : Heap}
theorem bd_product_sum (T : Txt K mg) : Binds K T.fd_product_sum ["row", "other"] [] := T.F_product_sum.binds (ps := ["row", "other"]) fun _ _ _ _ _ _ us hl => match us, hl with | [_, _], _ => rfl
theorem bd_is_integer (T : Txt K mg) : Binds K T.fd_is_integer ["thing"] [] := T.F_is_integer.binds (ps := ["thing"]) fun _ _ _ _ _ _ us hl => match us, hl with | [_], _ => rfl
theorem bd_is_move (T : Txt K mg) : Binds K T.fd_is_move ["system", "thing"] [] := T.F_is_move.binds (ps := ["system", "thing"]) fun _ _ _ _ _ _ us hl => match us, hl with | [_, _], _ => rfl
theorem bd_is_front (T : Txt K mg) : Binds K T.fd_is_front ["factor", "moves", "at", "thing"] [] := T.F_is_front.binds (ps := ["factor", "moves", "at", "thing"]) fun _ _ _ _ _ _ us hl => match us, hl with | [_, _, _, _], _ => rfl
theorem bd_form_holds (T : Txt K mg) : Binds K T.fd_form_holds ["system", "thing"] [] := T.F_form_holds.binds (ps := ["system", "thing"]) fun _ _ _ _ _ _ us hl => match us, hl with | [_, _], _ => rfl
theorem bd_places_of_pair (T : Txt K mg) : Binds K T.fd_places_of_pair ["system", "pair"] [] := T.F_places_of_pair.binds (ps := ["system", "pair"]) fun _ _ _ _ _ _ us hl => match us, hl with | [_, _], _ => rfl
theorem bd_is_parted (T : Txt K mg) : Binds K T.fd_is_parted ["system", "moves", "pair"] [] := T.F_is_parted.binds (ps := ["system", "moves", "pair"]) fun _ _ _ _ _ _ us hl => match us, hl with | [_, _, _], _ => rfl
theorem bd_is_alike (T : Txt K mg) : Binds K T.fd_is_alike ["system", "thing"] [] := T.F_is_alike.binds (ps := ["system", "thing"]) fun _ _ _ _ _ _ us hl => match us, hl with | [_, _], _ => rfl
theorem bd_is_modulo_right (T : Txt K mg) : Binds K T.fd_is_modulo_right ["system", "parts"] [] := T.F_is_modulo_right.binds (ps := ["system", "parts"]) fun _ _ _ _ _ _ us hl => match us, hl with | [_, _], _ => rfl
theorem bd_is_alike_right (T : Txt K mg) : Binds K T.fd_is_alike_right ["system", "parts"] [] := T.F_is_alike_right.binds (ps := ["system", "parts"]) fun _ _ _ _ _ _ us hl => match us, hl with | [_, _], _ => rfl
theorem bd_is_never_right (T : Txt K mg) : Binds K T.fd_is_never_right ["system", "parts", "unlike"] [] := T.F_is_never_right.binds (ps := ["system", "parts", "unlike"]) fun _ _ _ _ _ _ us hl => match us, hl with | [_, _, _], _ => rfl
theorem bd_is_form_right (T : Txt K mg) : Binds K T.fd_is_form_right ["system", "parts", "unlike"] [] := T.F_is_form_right.binds (ps := ["system", "parts", "unlike"]) fun _ _ _ _ _ _ us hl => match us, hl with | [_, _, _], _ => rfl
theorem bd_is_digits_right (T : Txt K mg) : Binds K T.fd_is_digits_right ["system", "parts", "unlike"] [] := T.F_is_digits_right.binds (ps := ["system", "parts", "unlike"]) fun _ _ _ _ _ _ us hl => match us, hl with | [_, _, _], _ => rfl
theorem bd_l_deck (T : Txt K mg) : Binds K T.fd_l_deck ["_law_script"] [] := T.F_l_deck.binds (ps := ["_law_script"]) fun _ _ _ _ _ _ us hl => match us, hl with | [_], _ => rfl
theorem bd_l_draw (T : Txt K mg) : Binds K T.fd_l_draw ["_law_deck_here", "_law_many"] [] := T.F_l_draw.binds (ps := ["_law_deck_here", "_law_many"]) fun _ _ _ _ _ _ us hl => match us, hl with | [_, _], _ => rfl
theorem bd_l_dot (T : Txt K mg) : Binds K T.fd_l_dot ["_law_a", "_law_b"] [] := T.F_l_dot.binds (ps := ["_law_a", "_law_b"]) fun _ _ _ _ _ _ us hl => match us, hl with | [_, _], _ => rfl
theorem bd_l_code (T : Txt K mg) : Binds K T.fd_l_code ["_law_w"] [] := T.F_l_code.binds (ps := ["_law_w"]) fun _ _ _ _ _ _ us hl => match us, hl with | [_], _ => rfl
theorem bd_l_is_met (T : Txt K mg) : Binds K T.fd_l_is_met ["_law_w", "_law_some"] [] := T.F_l_is_met.binds (ps := ["_law_w", "_law_some"]) fun _ _ _ _ _ _ us hl => match us, hl with | [_, _], _ => rfl
theorem bd_l_called (T : Txt K mg) : Binds K T.fd_l_called ["_law_deck_here", "_law_n"] [] := T.F_l_called.binds (ps := ["_law_deck_here", "_law_n"]) fun _ _ _ _ _ _ us hl => match us, hl with | [_, _], _ => rfl
theorem bd_l_planted (T : Txt K mg) : Binds K T.fd_l_planted ["_law_deck_here", "_law_n", "_law_many"] [] := T.F_l_planted.binds (ps := ["_law_deck_here", "_law_n", "_law_many"]) fun _ _ _ _ _ _ us hl => match us, hl with | [_, _, _], _ => rfl
theorem bd_l_marks (T : Txt K mg) : Binds K T.fd_l_marks ["_law_deck_here", "_law_n", "_law_t", "_law_many"] [] := T.F_l_marks.binds (ps := ["_law_deck_here", "_law_n", "_law_t", "_law_many"]) fun _ _ _ _ _ _ us hl => match us, hl with | [_, _, _, _], _ => rfl
theorem bd_l_own_form (T : Txt K mg) : Binds K T.fd_l_own_form ["_law_planted_here", "_law_by"] [] := T.F_l_own_form.binds (ps := ["_law_planted_here", "_law_by"]) fun _ _ _ _ _ _ us hl => match us, hl with | [_, _], _ => rfl
theorem bd_l_rewritten (T : Txt K mg) : Binds K T.fd_l_rewritten ["_law_deck_here", "_law_it"] [] := T.F_l_rewritten.binds (ps := ["_law_deck_here", "_law_it"]) fun _ _ _ _ _ _ us hl => match us, hl with | [_, _], _ => rfl
theorem bd_l_apart (T : Txt K mg) : Binds K T.fd_l_apart ["_law_deck_here", "_law_w", "_law_many"] [] := T.F_l_apart.binds (ps := ["_law_deck_here", "_law_w", "_law_many"]) fun _ _ _ _ _ _ us hl => match us, hl with | [_, _, _], _ => rfl
theorem bd_l_are_parted (T : Txt K mg) : Binds K T.fd_l_are_parted ["_law_w", "_law_lots", "_law_apart_here"] [] := T.F_l_are_parted.binds (ps := ["_law_w", "_law_lots", "_law_apart_here"]) fun _ _ _ _ _ _ us hl => match us, hl with | [_, _, _], _ => rfl
theorem bd_l_sure_world (T : Txt K mg) : Binds K T.fd_l_sure_world ["_law_deck_here"] [] := T.F_l_sure_world.binds (ps := ["_law_deck_here"]) fun _ _ _ _ _ _ us hl => match us, hl with | [_], _ => rfl
theorem bd_l_is_told (T : Txt K mg) : Binds K T.fd_l_is_told ["_law_code_here", "_law_it", "_law_apart_here", "_law_due"] [] := T.F_l_is_told.binds (ps := ["_law_code_here", "_law_it", "_law_apart_here", "_law_due"]) fun _ _ _ _ _ _ us hl => match us, hl with | [_, _, _, _], _ => rfl
theorem bd_l_right (T : Txt K mg) : Binds K T.fd_l_right ["_law_deck_here"] [] := T.F_l_right.binds (ps := ["_law_deck_here"]) fun _ _ _ _ _ _ us hl => match us, hl with | [_], _ => rfl
theorem bd_law (T : Txt K mg) : Binds K T.fd_law ["_law_script"] [] := T.F_law.binds (ps := ["_law_script"]) fun _ _ _ _ _ _ us hl => match us, hl with | [_], _ => rfl
theorem kb_System_uinitu_0 (T : Txt K mg) : ∃ its, Vals [.ref T.da_System_uinitu_0] its ∧ KB K T.fd_System_uinitu ["self", "names", "rows", "rests"] 4 [] [0, 1, 2, 3] its :=
  L3.FunD.kb T.FD_System_uinitu 4 [] [0, 1, 2, 3] (by simp) fun T kV doc pm an cdv ct us its ws l1 l2 l3 => match us, its, ws, l1, l2, l3 with | [_, _, _, _], [_], [], _, _, _ => ⟨_, rfl, rfl⟩
theorem kb_verdict_holds_0 (T : Txt K mg) : ∃ its, Vals [.ref T.da_verdict_holds_0] its ∧ KB K T.fd_verdict_holds ["system", "thing", "unlike"] 2 [] [0, 1, 2] its :=
  L3.FunD.kbK T.FD_verdict_holds 2 [] [0, 1, 2] [("unlike", .ref T.da_verdict_holds_0)] (by simp) (by simp) fun D doc pm an cdv ct us mv ws l1 l2 l3 => match us, mv, ws, l1, l2, l3 with | [_, _], [_], [], _, _, _ => ⟨_, _, _, _, _, _, rfl, rfl, rfl⟩
theorem kb_verdict_holds_1 (T : Txt K mg) : KB K T.fd_verdict_holds ["system", "thing", "unlike"] 2 ["unlike"] [0, 1, 2] [] := by
  obtain ⟨oc, od, dV, kV, doc, pm, an, cdv, ct, osl, e, lk, hcd, hD, hK⟩ := T.FD_verdict_holds.ex
  rw [e]
  rcases hD with ⟨_, rfl⟩ | ⟨e, _⟩
  · exact fun s us ws X l1 l2 => match us, ws, l1, l2 with | [_, _], [_], _, _ => .of_eq rfl
  · exact absurd rfl e
theorem kb_System_fulfils_0 (T : Txt K mg) : KB K T.fd_System_fulfils ["self", "numbers"] 2 [] [0, 1] [] := by
  obtain ⟨oc, od, kV, doc, pm, an, cdv, ct, osl, e, _, _⟩ := T.F_System_fulfils.ex
  rw [e]
  exact fun s us ws X l1 l2 => match us, ws, l1, l2 with | [_, _], [], _, _ => .of_eq rfl
theorem df_System_uinitu (T : Txt K mg) {G : Gx} : Dfl K G [.ref T.da_System_uinitu_0] [.tup []] := (.cons (let ⟨_, _, l, c, d⟩ := T.dp_System_uinitu_0; rep_tup0 l c d) dfl_nil)
theorem fo_names (T : Txt K mg) {a c : Addr} : FldOk K (GA T.cls fld a c) "names" tab_names := (.cons (show (fld 0).findIdx? (· == ("names" : Str)) = some 0 by decide +kernel) (show (fld 0).length < 1000 by decide +kernel) T.cl_System T.na_System_names .nil)
theorem fo_rests (T : Txt K mg) {a c : Addr} : FldOk K (GA T.cls fld a c) "rests" tab_rests := (.cons (show (fld 0).findIdx? (· == ("rests" : Str)) = some 2 by decide +kernel) (show (fld 0).length < 1000 by decide +kernel) T.cl_System T.na_System_rests .nil)
theorem fo_rows (T : Txt K mg) {a c : Addr} : FldOk K (GA T.cls fld a c) "rows" tab_rows := (.cons (show (fld 0).findIdx? (· == ("rows" : Str)) = some 1 by decide +kernel) (show (fld 0).length < 1000 by decide +kernel) T.cl_System T.na_System_rows .nil)
theorem ok_l_deck (T : Txt K mg) : FnG P w K mg base CX0 1 T.f_l_deck T.fd_l_deck ["_law_script"] (spDeckA K) := by
  refine FnG.of (FunB.of T.F_l_deck) sc_l_deck (fun vs H Q E ⟨a, ns, e, _⟩ => by rw [e]; rfl) fun cdv A outer s H vs Q E hr hg h => ?_
  have D : PSs (cxOf CX0 P w K mg base N_l_deck "_law_deck" (defScope s_l_deck) T.f_l_deck cdv A outer s H E).nox (defBody s_l_deck) (tDeckA K 952913 127) :=
    pss_cons (ps_par (i := 1) (j := 2) rfl sc_l_deck.nd rfl rfl (by decide) rfl rfl (pa_cons (pe_callTy call_list_of rfl T.z_list (by decide +kernel) (pa_cons (pe_slice sl_list (pv 0) po_none (po_some pe_int)) pa_nil)) (pa_cons pe_int pa_nil)) (by rfl))
    (pss_cons (ps_for PassesOwn.never rfl (pi_list (pv 1)) (pg_name (i := 3) sc_l_deck.nd rfl (.inl rfl)) (pss_one (ps_set (i := 2) sc_l_deck.nd rfl (.inl rfl) (pe_op op_modN (pe_callTy call_int1 rfl T.z_int (by decide +kernel) (pa_cons (pe_op op_add (pe_op op_add (pe_op op_mul (pv 2) pe_int) (pe_op op_modN (pe_callTy call_int1 rfl T.z_int (by decide +kernel) (pa_cons (pv 3) pa_nil)) pe_int)) pe_int) pa_nil)) pe_int))))
    (pss_one (ps_ret (pe_disp (pps_cons pe_str (pe_revL (pv 1)) (pps_cons pe_str (pv 2) (pps_cons pe_str pe_int pps_nil))) (by rfl) (by rfl) (fun z => by cases z) (by decide)))))
  exact ⟨_, D.nox, rd_deckA rfl (by decide) h⟩
theorem ok_l_draw (T : Txt K mg) : FnG P w K mg base CX0 1 T.f_l_draw T.fd_l_draw ["_law_deck_here", "_law_many"] (lift K (GA T.cls fld) CdrawA) := by
  refine FnG.of (FunB.of T.F_l_draw) sc_l_draw (fun vs H Q E ⟨a, c, ads, ds, n, Qd, _, _, _, r, ⟨m, e, _⟩, _⟩ => by rw [r.length, e]; rfl) fun cdv A outer s H vs Q E hr hg h => ?_
  obtain ⟨t, D⟩ : ∃ t, ∀ a c, DSs (cxOf CX0 P w K mg base N_l_draw "_law_draw" (defScope s_l_draw) T.f_l_draw cdv A outer s H E).nox (GA T.cls fld a c) ((defBody s_l_draw).drop 3) t w_l_draw :=
    ⟨_, fun a c => (dss_cons (ds_set 4 sc_l_draw.nd (de_mod (de_callTy call_int1 calls_int rfl T.z_int (by decide +kernel) (da_cons (de_mulB K (de_addK K (de_addK K (de_mod (de_callTy call_int1 calls_int rfl T.z_int (by decide +kernel) (da_cons (de_var 3) da_nil)) de_int) (de_mulB K (de_mulB K de_int (de_var 2)) (de_var 2))) de_int) de_int) da_nil)) de_int))
    (dss_cons (ds_set 4 sc_l_draw.nd (de_mod (de_callTy call_int1 calls_int rfl T.z_int (by decide +kernel) (da_cons (de_addK K (de_addK K (de_mulB K (de_var 4) (de_var 4)) (de_mulB K de_int (de_var 2))) de_int) da_nil)) de_int))
    (dss_one (ds_ret (de_mod (de_callTy call_int1 calls_int rfl T.z_int (by decide +kernel) (da_cons (de_fdiv (de_mod (de_callTy call_int1 calls_int rfl T.z_int (by decide +kernel) (da_cons (de_mulB K (de_var 4) de_int) da_nil)) de_int) de_int) da_nil)) (de_var 1))))))⟩
  have D1 : PSs (cxOf CX0 P w K mg base N_l_draw "_law_draw" (defScope s_l_draw) T.f_l_draw cdv A outer s H E).nox (defBody s_l_draw) (tDrawA K t) :=
    pss_cons (ps_dput (hu_of hr) (pv 0) pe_str (pe_op op_add (pe_dget (hu_of hr) (pv 0) pe_str (fun _ _ => rfl)) pe_int) rfl)
    (pss_cons (ps_par (i := 2) (j := 3) rfl sc_l_draw.nd rfl rfl (by decide) rfl rfl (pa_cons (pe_dget (hu_of hr) (pv 0) pe_str (fun _ _ => rfl)) (pa_cons (pe_dget (hu_of hr) (pv 0) pe_str (fun _ _ => rfl)) pa_nil)) (by rfl))
    (pss_cons (ps_if (pt_cmpR (op_neD hr.units) (pe_dget (hu_of hr) (pv 0) pe_str (fun _ _ => rfl)) (pe_lst pa_nil) (nomark _))
      (pss_cons (ps_set (i := 3) sc_l_draw.nd rfl (.inl rfl) (pe_bm0 PySem.F.plainAttrs_list PySem.F.slot_list_pop PySem.F.type_list_pop mt_pop (pe_dget (hu_of hr) (pv 0) pe_str (fun _ _ => rfl))))
      (pss_cons (ps_if (pt_cmpR op_ge (pv 3) (pe_op op_pow pe_int pe_int) (nomark _))
        (pss_cons (ps_expr (pe_bm PySem.F.plainAttrs_list PySem.F.slot_list_append PySem.F.type_list_append mt_append (pe_dget (hu_of hr) (pv 0) pe_str (fun _ _ => rfl)) (pa_cons (pe_op op_fdivA (pv 3) (pv 1)) pa_nil)))
        (pss_one (ps_ret (pe_op op_modN (pe_callTy call_int1 rfl T.z_int (by decide +kernel) (pa_cons (pv 3) pa_nil)) (pv 1))))) pss_nil)
      (pss_one (ps_set (i := 3) sc_l_draw.nd rfl (.inl rfl) (pe_op op_add (pv 3) (pe_dget (hu_of hr) (pv 0) pe_str (fun _ _ => rfl)))))))
      pss_nil) (D 0 0).ps))
  exact ⟨_, D1.nox, rd_drawA (by decide) (fun p c => (D p c).sim) pf_l_draw h⟩
theorem ok_product_sum (T : Txt K mg) : FnG P w K mg base CX0 1 T.f_product_sum T.fd_product_sum ["row", "other"] (lift K (GA T.cls fld) C_product_sum) :=
  FnG.data (FunB.of T.F_product_sum) sc_product_sum len_product_sum (fun cdv A outer s H E a c hr hg => ⟨_, (dss_one (ds_ret (de_callB (call_sumB K rfl) calls_sumB rfl T.z_sum (by decide +kernel) (da_cons (de_lc (own := [("one", 2), ("two", 3)]) rfl sc_product_sum.nd (di_zp K rfl T.z_zip (da_cons (de_var 0) (da_cons (de_var 1) da_nil))) (blkOk_by (N := N_product_sum) (sc := (defScope s_product_sum)) (by decide +kernel)) (fun _ _ _ _ _ => (dg_tupK K rfl (dgs_cons (dg_name sc_product_sum.nd) (dgs_cons (dg_name sc_product_sum.nd) dgs_nil)))) (fun _ _ _ _ _ => dts_nil) (fun _ _ _ _ _ => (de_mulB K (de_var 2) (de_var 3))) (by decide)) da_nil))))⟩) pf_product_sum
theorem ok_System_uinitu (T : Txt K mg) : FnG P w K mg base CX0 1 T.f_System_uinitu T.fd_System_uinitu ["self", "names", "rows", "rests"] (liftI K (GA T.cls fld) 0 C_System_uinitu) :=
  FnG.init 0 (FunB.ofD T.FD_System_uinitu) sc_System_uinitu len_System_uinitu (fun cdv A outer s H E a c hr hg => ⟨_, (dss_cons (ds_fld 0 K (fo_names T) (pv 0) (de_var 1))
    (dss_cons (ds_fld 0 K (fo_rows T) (pv 0) (de_var 2))
    (dss_one (ds_fld 0 K (fo_rests T) (pv 0) (de_var 3)))))⟩) pf_System_uinitu
theorem ok_System_fulfils (T : Txt K mg) : FnG P w K mg base CX0 2 T.f_System_fulfils T.fd_System_fulfils ["self", "numbers"] (lift K (GA T.cls fld) C_System_fulfils) :=
  FnG.data (FunB.of T.F_System_fulfils) sc_System_fulfils len_System_fulfils (fun cdv A outer s H E a c hr hg => ⟨_, (dss_cons (ds_for PassesOwn.never rfl (di_seqK K (de_fld K (fo_rows T) (de_var 0))) (dg_tupK K rfl (dgs_cons (dg_name sc_System_fulfils.nd) (dgs_cons (dg_name sc_System_fulfils.nd) dgs_nil))) (dss_one (ds_if (dt_cmp (op_neK K hr.units) ops_ne (de_callX K (ok_product_sum T) (hr.mono (by decide)) hg T.m_product_sum T.F_product_sum.kp (bd_product_sum T) .nil dfl_nil (da_cons (de_var 2) (da_cons (de_var 1) da_nil))) (de_var 3)) (dss_one (ds_ret de_bl)) dss_nil)))
    (dss_cons (ds_for PassesOwn.never rfl (di_seqK K (de_fld K (fo_rests T) (de_var 0))) (dg_tupK K rfl (dgs_cons (dg_name sc_System_fulfils.nd) (dgs_cons (dg_name sc_System_fulfils.nd) (dgs_cons (dg_name sc_System_fulfils.nd) dgs_nil)))) (dss_one (ds_if (dt_cmp (op_neK K hr.units) ops_ne (de_mod (de_sub (de_callX K (ok_product_sum T) (hr.mono (by decide)) hg T.m_product_sum T.F_product_sum.kp (bd_product_sum T) .nil dfl_nil (da_cons (de_var 2) (da_cons (de_var 1) da_nil))) (de_var 3)) (de_var 4)) de_int) (dss_one (ds_ret de_bl)) dss_nil)))
    (dss_one (ds_ret de_bl))))⟩) pf_System_fulfils
theorem ok_is_integer (T : Txt K mg) : FnG P w K mg base CX0 1 T.f_is_integer T.fd_is_integer ["thing"] (lift K (GA T.cls fld) C_is_integer) :=
  FnG.data (FunB.of T.F_is_integer) sc_is_integer len_is_integer (fun cdv A outer s H E a c hr hg => ⟨_, (dss_one (ds_ret (de_and (de_isi K (by decide +kernel) (de_var 0) T.z_isinstance T.z_int (by decide +kernel)) (de_one (de_not (de_isi K (by decide +kernel) (de_var 0) T.z_isinstance T.z_bool (by decide +kernel)))))))⟩) pf_is_integer
theorem ok_is_move (T : Txt K mg) : FnG P w K mg base CX0 2 T.f_is_move T.fd_is_move ["system", "thing"] (lift K (GA T.cls fld) C_is_move) :=
  FnG.data (FunB.of T.F_is_move) sc_is_move len_is_move (fun cdv A outer s H E a c hr hg => ⟨_, (dss_cons (ds_if (DW.dt (dw_or (dt_not (dt_val (de_isi K (by decide +kernel) (de_var 1) T.z_isinstance T.z_tuple (by decide +kernel)))) (dw_or (dt_cmp (op_neK K hr.units) ops_ne (de_callB (call_lenK K) calls_len rfl T.z_len (by decide +kernel) (da_cons (de_var 1) da_nil)) (de_callB (call_lenK K) calls_len rfl T.z_len (by decide +kernel) (da_cons (de_wk (de_fld K (fo_names T) (de_var 0))) da_nil))) (dw_or1 (dt_not (dt_val (de_callB (call_allK K rfl) calls_all rfl T.z_all (by decide +kernel) (da_cons (de_lc (own := [("one", 2)]) rfl sc_is_move.nd (di_seqK K (de_var 1)) (blkOk_by (N := N_is_move) (sc := (defScope s_is_move)) (by decide +kernel)) (fun _ _ _ _ _ => (dg_name sc_is_move.nd)) (fun _ _ _ _ _ => dts_nil) (fun _ _ _ _ _ => (de_callX K (ok_is_integer T) (hr.mono (by decide)) hg T.m_is_integer T.F_is_integer.kp (bd_is_integer T) .nil dfl_nil (da_cons (de_var 2) da_nil))) (by decide)) da_nil)))))))) (dss_one (ds_ret de_bl)) dss_nil)
    (dss_cons (ds_if (dt_not (dt_val (de_callB (call_allK K rfl) calls_all rfl T.z_all (by decide +kernel) (da_cons (de_lc (own := [("factors", 3), ("constant", 4)]) rfl sc_is_move.nd (di_seqK K (de_fld K (fo_rows T) (de_var 0))) (blkOk_by (N := N_is_move) (sc := (defScope s_is_move)) (by decide +kernel)) (fun _ _ _ _ _ => (dg_tupK K rfl (dgs_cons (dg_name sc_is_move.nd) (dgs_cons (dg_name sc_is_move.nd) dgs_nil)))) (fun _ _ _ _ _ => dts_nil) (fun _ _ _ _ _ => (de_cmp (op_eqK K hr.units) ops_eq (de_callX K (ok_product_sum T) (hr.mono (by decide)) hg T.m_product_sum T.F_product_sum.kp (bd_product_sum T) .nil dfl_nil (da_cons (de_var 3) (da_cons (de_var 1) da_nil))) de_int)) (by decide)) da_nil)))) (dss_one (ds_ret de_bl)) dss_nil)
    (dss_one (ds_ret (de_callB (call_allK K rfl) calls_all rfl T.z_all (by decide +kernel) (da_cons (de_lc (own := [("factors", 3), ("constant", 4), ("modulus", 5)]) rfl sc_is_move.nd (di_seqK K (de_fld K (fo_rests T) (de_var 0))) (blkOk_by (N := N_is_move) (sc := (defScope s_is_move)) (by decide +kernel)) (fun _ _ _ _ _ => (dg_tupK K rfl (dgs_cons (dg_name sc_is_move.nd) (dgs_cons (dg_name sc_is_move.nd) (dgs_cons (dg_name sc_is_move.nd) dgs_nil))))) (fun _ _ _ _ _ => dts_nil) (fun _ _ _ _ _ => (de_cmp (op_eqK K hr.units) ops_eq (de_mod (de_callX K (ok_product_sum T) (hr.mono (by decide)) hg T.m_product_sum T.F_product_sum.kp (bd_product_sum T) .nil dfl_nil (da_cons (de_var 3) (da_cons (de_var 1) da_nil))) (de_var 5)) de_int)) (by decide)) da_nil))))))⟩) pf_is_move
theorem ok_is_front (T : Txt K mg) : FnG P w K mg base CX0 2 T.f_is_front T.fd_is_front ["factor", "moves", "at", "thing"] (lift K (GA T.cls fld) C_is_front) :=
  FnG.data (FunB.of T.F_is_front) sc_is_front len_is_front (fun cdv A outer s H E a c hr hg => ⟨_, (dss_cons (ds_if (DW.dt (dw_or (dt_not (dt_val (de_callX K (ok_is_integer T) (hr.mono (by decide)) hg T.m_is_integer T.F_is_integer.kp (bd_is_integer T) .nil dfl_nil (da_cons (de_var 3) da_nil)))) (dw_or1 (dt_not (dt_chain op_le ops_IB op_lt ops_IB de_int (de_var 3) (de_callB (call_lenK K) calls_len rfl T.z_len (by decide +kernel) (da_cons (de_var 1) da_nil))))))) (dss_one (ds_ret de_bl)) dss_nil)
    (dss_one (ds_ret (de_and (de_cmp (op_eqK K hr.units) ops_eq (de_ixK K (de_ixK K (de_var 1) (de_var 3)) (de_var 2)) (de_var 0)) (de_one (de_callB (call_allK K rfl) calls_all rfl T.z_all (by decide +kernel) (da_cons (de_lc (own := [("move", 4)]) rfl sc_is_front.nd (di_seqK K (de_slice K (de_var 1) do_none (do_some (de_var 3)))) (blkOk_by (N := N_is_front) (sc := (defScope s_is_front)) (by decide +kernel)) (fun _ _ _ _ _ => (dg_name sc_is_front.nd)) (fun _ _ _ _ _ => dts_nil) (fun _ _ _ _ _ => (de_cmp (op_eqK K hr.units) ops_eq (de_ixK K (de_var 4) (de_var 2)) de_int)) (by decide)) da_nil)))))))⟩) pf_is_front
theorem ok_form_holds (T : Txt K mg) : FnG P w K mg base CX0 3 T.f_form_holds T.fd_form_holds ["system", "thing"] (lift K (GA T.cls fld) C_form_holds) :=
  FnG.data (FunB.of T.F_form_holds) sc_form_holds len_form_holds (fun cdv A outer s H E a c hr hg => ⟨_, (dss_cons (ds_if (DW.dt (dw_or (dt_not (dt_val (de_isi K (by decide +kernel) (de_var 1) T.z_isinstance T.z_tuple (by decide +kernel)))) (dw_or1 (dt_cmp (op_neK K hr.units) ops_ne (de_callB (call_lenK K) calls_len rfl T.z_len (by decide +kernel) (da_cons (de_var 1) da_nil)) (de_gInt 3 T.g_FORM_PARTS))))) (dss_one (ds_ret de_bl)) dss_nil)
    (dss_cons (ds_asg (de_var 1) (dg_tupK K rfl (dgs_cons (dg_name sc_form_holds.nd) (dgs_cons (dg_name sc_form_holds.nd) (dgs_cons (dg_name sc_form_holds.nd) dgs_nil)))))
    (dss_cons (ds_if (DW.dt (dw_or (dt_not (dt_val (de_callX K (ok_is_integer T) (hr.mono (by decide)) hg T.m_is_integer T.F_is_integer.kp (bd_is_integer T) .nil dfl_nil (da_cons (de_var 2) da_nil)))) (dw_or (dt_cmp op_lt ops_IB (de_var 2) de_int) (dw_or (dt_not (dt_val (de_isi K (by decide +kernel) (de_var 4) T.z_isinstance T.z_tuple (by decide +kernel)))) (dw_or1 (dt_not (dt_chain op_le ops_IB op_le ops_IB de_int (de_callB (call_lenK K) calls_len rfl T.z_len (by decide +kernel) (da_cons (de_var 4) da_nil)) (de_gInt 12 T.g_MOST_MOVES)))))))) (dss_one (ds_ret de_bl)) dss_nil)
    (dss_cons (ds_if (DW.dt (dw_or (dt_not (dt_val (de_isi K (by decide +kernel) (de_var 3) T.z_isinstance T.z_tuple (by decide +kernel)))) (dw_or1 (dt_cmp (op_neK K hr.units) ops_ne (de_callB (call_lenK K) calls_len rfl T.z_len (by decide +kernel) (da_cons (de_var 3) da_nil)) (de_callB (call_lenK K) calls_len rfl T.z_len (by decide +kernel) (da_cons (de_wk (de_fld K (fo_names T) (de_var 0))) da_nil)))))) (dss_one (ds_ret de_bl)) dss_nil)
    (dss_cons (ds_if (dt_not (dt_val (de_callB (call_allK K rfl) calls_all rfl T.z_all (by decide +kernel) (da_cons (de_lc (own := [("move", 5)]) rfl sc_form_holds.nd (di_seqK K (de_var 4)) (blkOk_by (N := N_form_holds) (sc := (defScope s_form_holds)) (by decide +kernel)) (fun _ _ _ _ _ => (dg_name sc_form_holds.nd)) (fun _ _ _ _ _ => dts_nil) (fun _ _ _ _ _ => (de_callX K (ok_is_move T) (hr.mono (by decide)) hg T.m_is_move T.F_is_move.kp (bd_is_move T) .nil dfl_nil (da_cons (de_var 0) (da_cons (de_var 5) da_nil)))) (by decide)) da_nil)))) (dss_one (ds_ret de_bl)) dss_nil)
    (dss_one (ds_ret (de_callB (call_allK K rfl) calls_all rfl T.z_all (by decide +kernel) (da_cons (de_lc (own := [("at", 6), ("front", 7)]) rfl sc_form_holds.nd (di_en K rfl T.z_enumerate (da_cons (de_var 3) da_nil)) (blkOk_by (N := N_form_holds) (sc := (defScope s_form_holds)) (by decide +kernel)) (fun _ _ _ _ _ => (dg_tupK K rfl (dgs_cons (dg_name sc_form_holds.nd) (dgs_cons (dg_name sc_form_holds.nd) dgs_nil)))) (fun _ _ _ _ _ => dts_nil) (fun _ _ _ _ _ => (de_callX K (ok_is_front T) (hr.mono (by decide)) hg T.m_is_front T.F_is_front.kp (bd_is_front T) .nil dfl_nil (da_cons (de_var 2) (da_cons (de_var 4) (da_cons (de_var 6) (da_cons (de_var 7) da_nil)))))) (by decide)) da_nil)))))))))⟩) pf_form_holds
theorem ok_places_of_pair (T : Txt K mg) : FnG P w K mg base CX0 1 T.f_places_of_pair T.fd_places_of_pair ["system", "pair"] (lift K (GA T.cls fld) C_places_of_pair) :=
  FnG.data (FunB.of T.F_places_of_pair) sc_places_of_pair len_places_of_pair (fun cdv A outer s H E a c hr hg => ⟨_, (dss_one (ds_ret (de_tup (da_cons (de_idxP K (de_fld K (fo_names T) (de_var 0)) (de_ixK K (de_var 1) de_int)) (da_cons (de_idxP K (de_fld K (fo_names T) (de_var 0)) (de_ixK K (de_var 1) de_int)) da_nil)))))⟩) pf_places_of_pair
theorem ok_is_parted (T : Txt K mg) : FnG P w K mg base CX0 2 T.f_is_parted T.fd_is_parted ["system", "moves", "pair"] (lift K (GA T.cls fld) C_is_parted) :=
  FnG.data (FunB.of T.F_is_parted) sc_is_parted len_is_parted (fun cdv A outer s H E a c hr hg => ⟨_, (dss_cons (ds_asg (de_callX K (ok_places_of_pair T) (hr.mono (by decide)) hg T.m_places_of_pair T.F_places_of_pair.kp (bd_places_of_pair T) .nil dfl_nil (da_cons (de_var 0) (da_cons (de_var 2) da_nil))) (dg_tupK K rfl (dgs_cons (dg_name sc_is_parted.nd) (dgs_cons (dg_name sc_is_parted.nd) dgs_nil))))
    (dss_one (ds_ret (de_callB (call_anyK K rfl) calls_any rfl T.z_any (by decide +kernel) (da_cons (de_lc (own := [("move", 5)]) rfl sc_is_parted.nd (di_seqK K (de_var 1)) (blkOk_by (N := N_is_parted) (sc := (defScope s_is_parted)) (by decide +kernel)) (fun _ _ _ _ _ => (dg_name sc_is_parted.nd)) (fun _ _ _ _ _ => dts_nil) (fun _ _ _ _ _ => (de_cmp (op_neK K hr.units) ops_ne (de_ixK K (de_var 5) (de_var 3)) (de_ixK K (de_var 5) (de_var 4)))) (by decide)) da_nil)))))⟩) pf_is_parted
theorem ok_is_alike (T : Txt K mg) : FnG P w K mg base CX0 3 T.f_is_alike T.fd_is_alike ["system", "thing"] (lift K (GA T.cls fld) C_is_alike) :=
  FnG.data (FunB.of T.F_is_alike) sc_is_alike len_is_alike (fun cdv A outer s H E a c hr hg => ⟨_, (dss_one (ds_ret (de_and (de_callX K (ok_is_integer T) (hr.mono (by decide)) hg T.m_is_integer T.F_is_integer.kp (bd_is_integer T) .nil dfl_nil (da_cons (de_var 1) da_nil)) (de_one (de_meth K 0 T.cl_System T.me_System_fulfils (ok_System_fulfils T) (hr.mono (by decide)) hg (kb_System_fulfils_0 T) .nil dfl_nil (show ("fulfils" : Str) ∉ fld 0 by decide +kernel) (de_var 0) (da_cons (de_mulB K (de_tup (da_cons (de_var 1) da_nil)) (de_callB (call_lenK K) calls_len rfl T.z_len (by decide +kernel) (da_cons (de_wk (de_fld K (fo_names T) (de_var 0))) da_nil))) da_nil) dk_nil)))))⟩) pf_is_alike
theorem ok_is_modulo_right (T : Txt K mg) : FnG P w K mg base CX0 1 T.f_is_modulo_right T.fd_is_modulo_right ["system", "parts"] (lift K (GA T.cls fld) C_is_modulo_right) := FnG.never
theorem ok_is_alike_right (T : Txt K mg) : FnG P w K mg base CX0 4 T.f_is_alike_right T.fd_is_alike_right ["system", "parts"] (lift K (GA T.cls fld) C_is_alike_right) :=
  FnG.data (FunB.of T.F_is_alike_right) sc_is_alike_right len_is_alike_right (fun cdv A outer s H E a c hr hg => ⟨_, (dss_one (ds_ret (de_and (de_cmp (op_eqK K hr.units) ops_eq (de_callB (call_lenK K) calls_len rfl T.z_len (by decide +kernel) (da_cons (de_var 1) da_nil)) de_int) (de_and (de_callX K (ok_is_alike T) (hr.mono (by decide)) hg T.m_is_alike T.F_is_alike.kp (bd_is_alike T) .nil dfl_nil (da_cons (de_var 0) (da_cons (de_ixK K (de_var 1) de_int) da_nil))) (de_one (de_cmp op_gt ops_IB (de_ixK K (de_var 1) de_int) de_int))))))⟩) pf_is_alike_right
theorem ok_is_never_right (T : Txt K mg) : FnG P w K mg base CX0 1 T.f_is_never_right T.fd_is_never_right ["system", "parts", "unlike"] (lift K (GA T.cls fld) C_is_never_right) := FnG.never
theorem ok_is_form_right (T : Txt K mg) : FnG P w K mg base CX0 4 T.f_is_form_right T.fd_is_form_right ["system", "parts", "unlike"] (lift K (GA T.cls fld) C_is_form_right) :=
  FnG.data (FunB.of T.F_is_form_right) sc_is_form_right len_is_form_right (fun cdv A outer s H E a c hr hg => ⟨_, (dss_cons (ds_if (DW.dt (dw_or (dt_cmp (op_neK K hr.units) ops_ne (de_callB (call_lenK K) calls_len rfl T.z_len (by decide +kernel) (da_cons (de_var 1) da_nil)) de_int) (dw_or (dt_not (dt_val (de_callX K (ok_is_alike T) (hr.mono (by decide)) hg T.m_is_alike T.F_is_alike.kp (bd_is_alike T) .nil dfl_nil (da_cons (de_var 0) (da_cons (de_ixK K (de_var 1) de_int) da_nil))))) (dw_or1 (dt_not (dt_val (de_callX K (ok_form_holds T) (hr.mono (by decide)) hg T.m_form_holds T.F_form_holds.kp (bd_form_holds T) .nil dfl_nil (da_cons (de_var 0) (da_cons (de_ixK K (de_var 1) de_int) da_nil))))))))) (dss_one (ds_ret de_bl)) dss_nil)
    (dss_cons (ds_asg (de_ixK K (de_var 1) de_int) (dg_tupK K rfl (dgs_cons (dg_name sc_is_form_right.nd) (dgs_cons (dg_name sc_is_form_right.nd) (dgs_cons (dg_name sc_is_form_right.nd) dgs_nil)))))
    (dss_one (ds_ret (de_callB (call_allK K rfl) calls_all rfl T.z_all (by decide +kernel) (da_cons (de_lc (own := [("pair", 6)]) rfl sc_is_form_right.nd (di_seqK K (de_var 2)) (blkOk_by (N := N_is_form_right) (sc := (defScope s_is_form_right)) (by decide +kernel)) (fun _ _ _ _ _ => (dg_name sc_is_form_right.nd)) (fun _ _ _ _ _ => dts_nil) (fun _ _ _ _ _ => (de_callX K (ok_is_parted T) (hr.mono (by decide)) hg T.m_is_parted T.F_is_parted.kp (bd_is_parted T) .nil dfl_nil (da_cons (de_var 0) (da_cons (de_var 5) (da_cons (de_var 6) da_nil))))) (by decide)) da_nil))))))⟩) pf_is_form_right
theorem ok_is_digits_right (T : Txt K mg) : FnG P w K mg base CX0 1 T.f_is_digits_right T.fd_is_digits_right ["system", "parts", "unlike"] (lift K (GA T.cls fld) C_is_digits_right) := FnG.never
theorem ok_verdict_holds (T : Txt K mg) : FnG P w K mg base CX0 5 T.f_verdict_holds T.fd_verdict_holds ["system", "thing", "unlike"] (lift K (GA T.cls fld) C_verdict_holds) :=
  FnG.data (FunB.ofD T.FD_verdict_holds) sc_verdict_holds len_verdict_holds (fun cdv A outer s H E a c hr hg => ⟨_, (dss_cons (ds_if (DW.dt (dw_or (dt_not (dt_val (de_isi K (by decide +kernel) (de_var 1) T.z_isinstance T.z_tuple (by decide +kernel)))) (dw_or (dt_cmp (op_eqK K hr.units) ops_eq (de_var 1) (de_tup da_nil)) (dw_or1 (dt_not (dt_val (de_isi K (by decide +kernel) (de_ixK K (de_var 1) de_int) T.z_isinstance T.z_str (by decide +kernel)))))))) (dss_one (ds_ret de_bl)) dss_nil)
    (dss_cons (ds_par2 3 false 4 false rfl sc_verdict_holds.nd (de_ixK K (de_var 1) de_int) (de_slice K (de_var 1) (do_some de_int) do_none))
    (dss_cons (ds_if (dt_cmp (op_eqK K hr.units) ops_eq (de_var 3) (de_gStr "modulo" T.g_MODULO_verdicts)) (dss_one (ds_ret (de_callX K (ok_is_modulo_right T) (hr.mono (by decide)) hg T.m_is_modulo_right T.F_is_modulo_right.kp (bd_is_modulo_right T) .nil dfl_nil (da_cons (de_var 0) (da_cons (de_var 4) da_nil))))) dss_nil)
    (dss_cons (ds_if (dt_cmp (op_eqK K hr.units) ops_eq (de_var 3) (de_gStr "alike" T.g_ALIKE)) (dss_one (ds_ret (de_and (de_cmp (op_eqK K hr.units) ops_eq (de_var 2) (de_tup da_nil)) (de_one (de_callX K (ok_is_alike_right T) (hr.mono (by decide)) hg T.m_is_alike_right T.F_is_alike_right.kp (bd_is_alike_right T) .nil dfl_nil (da_cons (de_var 0) (da_cons (de_var 4) da_nil))))))) dss_nil)
    (dss_cons (ds_if (dt_cmp (op_eqK K hr.units) ops_eq (de_var 3) (de_gStr "never" T.g_NEVER)) (dss_one (ds_ret (de_callX K (ok_is_never_right T) (hr.mono (by decide)) hg T.m_is_never_right T.F_is_never_right.kp (bd_is_never_right T) .nil dfl_nil (da_cons (de_var 0) (da_cons (de_var 4) (da_cons (de_var 2) da_nil)))))) dss_nil)
    (dss_cons (ds_if (dt_cmp (op_eqK K hr.units) ops_eq (de_var 3) (de_gStr "form" T.g_FORM)) (dss_one (ds_ret (de_callX K (ok_is_form_right T) (hr.mono (by decide)) hg T.m_is_form_right T.F_is_form_right.kp (bd_is_form_right T) .nil dfl_nil (da_cons (de_var 0) (da_cons (de_var 4) (da_cons (de_var 2) da_nil)))))) dss_nil)
    (dss_one (ds_ret (de_and (de_cmp (op_eqK K hr.units) ops_eq (de_var 3) (de_gStr "digits" T.g_DIGITS_verdicts)) (de_one (de_callX K (ok_is_digits_right T) (hr.mono (by decide)) hg T.m_is_digits_right T.F_is_digits_right.kp (bd_is_digits_right T) .nil dfl_nil (da_cons (de_var 0) (da_cons (de_var 4) (da_cons (de_var 2) da_nil))))))))))))))⟩) pf_verdict_holds
theorem ok_l_dot (T : Txt K mg) : FnG P w K mg base CX0 1 T.f_l_dot T.fd_l_dot ["_law_a", "_law_b"] (lift K (GA T.cls fld) C_l_dot) :=
  FnG.data (FunB.of T.F_l_dot) sc_l_dot len_l_dot (fun cdv A outer s H E a c hr hg => ⟨_, (dss_one (ds_ret (de_callB (call_sumB K rfl) calls_sumB rfl T.z_sum (by decide +kernel) (da_cons (de_lc (own := [("_law_x", 2), ("_law_y", 3)]) rfl sc_l_dot.nd (di_zp K rfl T.z_zip (da_cons (de_var 0) (da_cons (de_var 1) da_nil))) (blkOk_by (N := N_l_dot) (sc := (defScope s_l_dot)) (by decide +kernel)) (fun _ _ _ _ _ => (dg_tupK K rfl (dgs_cons (dg_name sc_l_dot.nd) (dgs_cons (dg_name sc_l_dot.nd) dgs_nil)))) (fun _ _ _ _ _ => dts_nil) (fun _ _ _ _ _ => (de_mulB K (de_var 2) (de_var 3))) (by decide)) da_nil))))⟩) pf_l_dot
theorem ok_l_code (T : Txt K mg) : FnG P w K mg base CX0 3 T.f_l_code T.fd_l_code ["_law_w"] (lift K (GA T.cls fld) C_l_code) :=
  FnG.data (FunB.of T.F_l_code) sc_l_code len_l_code (fun cdv A outer s H E a c hr hg => ⟨_, (dss_one (ds_ret (de_make K 0 T.mk_System (ok_System_uinitu T) (hr.mono (by decide)) hg T.mC_System (kb_System_uinitu_0 T).choose_spec.2 (kb_System_uinitu_0 T).choose_spec.1 (df_System_uinitu T) (da_cons (de_dget hr.units (de_var 0) de_str (fun _ _ => rfl)) (da_cons (de_callTy (call_tupleK K) calls_tuple rfl T.z_tuple (by decide +kernel) (da_cons (de_dget hr.units (de_var 0) de_str (fun _ _ => rfl)) da_nil)) (da_cons (de_callTy (call_tupleK K) calls_tuple rfl T.z_tuple (by decide +kernel) (da_cons (de_dget hr.units (de_var 0) de_str (fun _ _ => rfl)) da_nil)) da_nil))) dk_nil)))⟩) pf_l_code
theorem ok_l_is_met (T : Txt K mg) : FnG P w K mg base CX0 2 T.f_l_is_met T.fd_l_is_met ["_law_w", "_law_some"] (lift K (GA T.cls fld) C_l_is_met) :=
  FnG.data (FunB.of T.F_l_is_met) sc_l_is_met len_l_is_met (fun cdv A outer s H E a c hr hg => ⟨_, (dss_cons (ds_for PassesOwn.never rfl (di_seqK K (de_dget hr.units (de_var 0) de_str (fun _ _ => rfl))) (dg_tupK K rfl (dgs_cons (dg_name sc_l_is_met.nd) (dgs_cons (dg_name sc_l_is_met.nd) dgs_nil))) (dss_one (ds_if (dt_cmp (op_neK K hr.units) ops_ne (de_callXF K (ok_l_dot T) (hr.mono (by decide)) hg T.m_l_dot T.F_l_dot.kp (bd_l_dot T) .nil dfl_nil (da_cons (de_var 2) (da_cons (de_var 1) da_nil))) (de_var 3)) (dss_one (ds_ret de_bl)) dss_nil)))
    (dss_cons (ds_for PassesOwn.never rfl (di_seqK K (de_dget hr.units (de_var 0) de_str (fun _ _ => rfl))) (dg_tupK K rfl (dgs_cons (dg_name sc_l_is_met.nd) (dgs_cons (dg_name sc_l_is_met.nd) (dgs_cons (dg_name sc_l_is_met.nd) dgs_nil)))) (dss_one (ds_if (dt_cmp (op_neK K hr.units) ops_ne (de_mod (de_callTy call_int1 calls_int rfl T.z_int (by decide +kernel) (da_cons (de_sub (de_callXF K (ok_l_dot T) (hr.mono (by decide)) hg T.m_l_dot T.F_l_dot.kp (bd_l_dot T) .nil dfl_nil (da_cons (de_var 2) (da_cons (de_var 1) da_nil))) (de_var 3)) da_nil)) (de_var 4)) de_int) (dss_one (ds_ret de_bl)) dss_nil)))
    (dss_one (ds_ret de_bl))))⟩) pf_l_is_met
theorem ok_l_called (T : Txt K mg) : FnG P w K mg base CX0 2 T.f_l_called T.fd_l_called ["_law_deck_here", "_law_n"] (lift K (GA T.cls fld) C_l_called) :=
  FnG.data (FunB.of T.F_l_called) sc_l_called len_l_called (fun cdv A outer s H E a c hr hg => ⟨_, (dss_cons (ds_setO 2 sc_l_called.nd (de_split de_str de_str))
    (dss_one (ds_ret (de_callTy (call_tupP K) calls_tupP rfl T.z_tuple (by decide +kernel) (da_cons (de_lc (own := [("_law_k", 3)]) rfl sc_l_called.nd (di_range1 rfl T.z_range (da_cons (de_var 1) da_nil)) (blkOk_by (N := N_l_called) (sc := (defScope s_l_called)) (by decide +kernel)) (fun _ _ _ _ _ => (dg_name sc_l_called.nd)) (fun _ _ _ _ _ => dts_nil) (fun _ _ _ _ _ => (de_popAtK K 2 (de_callX K (ok_l_draw T) (hr.mono (by decide)) hg T.m_l_draw T.F_l_draw.kp (bd_l_draw T) .nil dfl_nil (da_cons (de_var 0) (da_cons (de_callB (call_lenK K) calls_len rfl T.z_len (by decide +kernel) (da_cons (de_var 2) da_nil)) da_nil))) (pv 2))) (by decide)) da_nil)))))⟩) pf_l_called
theorem ok_l_planted (T : Txt K mg) : FnG P w K mg base CX0 2 T.f_l_planted T.fd_l_planted ["_law_deck_here", "_law_n", "_law_many"] (lift K (GA T.cls fld) C_l_planted) :=
  FnG.data (FunB.of T.F_l_planted) sc_l_planted len_l_planted (fun cdv A outer s H E a c hr hg => ⟨_, (dss_cons (ds_setLc (i := 3) rfl sc_l_planted.nd rfl rfl (sw_true rfl rfl rfl (by decide +kernel)) (own := [("_law_k", 4)]) (di_range1 rfl T.z_range (da_cons (de_var 1) da_nil)) (blkOk_by (N := N_l_planted) (sc := (defScope s_l_planted)) (by decide +kernel)) (fun _ _ _ _ _ => (dg_name sc_l_planted.nd)) (fun _ _ _ _ _ => dts_nil) (fun _ _ _ _ _ => (de_callX K (ok_l_draw T) (hr.mono (by decide)) hg T.m_l_draw T.F_l_draw.kp (bd_l_draw T) .nil dfl_nil (da_cons (de_var 0) (da_cons (de_var 1) da_nil)))) (by decide))
    (dss_cons (ds_set 5 sc_l_planted.nd (de_sortSet rfl (de_var 3) rfl T.z_sorted rfl T.z_set))
    (dss_cons (ds_parC3 K 6 false 7 true 8 true rfl sc_l_planted.nd (de_lc (own := [("_law_k", 4)]) rfl sc_l_planted.nd (di_seqK K (de_var 3)) (blkOk_by (N := N_l_planted) (sc := (defScope s_l_planted)) (by decide +kernel)) (fun _ _ _ _ _ => (dg_name sc_l_planted.nd)) (fun _ _ _ _ _ => dts_nil) (fun _ _ _ _ _ => (de_idxL K (de_var 5) (de_var 4))) (by decide)) (de_lst da_nil) (de_lst da_nil))
    (dss_cons (ds_for PassesOwn.never rfl (di_range1 rfl T.z_range (da_cons (de_callB (call_lenK K) calls_len rfl T.z_len (by decide +kernel) (da_cons (de_var 5) da_nil)) da_nil)) (dg_name sc_l_planted.nd) (dss_one (ds_append 7 (de_lc (own := [("_law_k", 4)]) rfl sc_l_planted.nd (di_range1 rfl T.z_range (da_cons (de_var 1) da_nil)) (blkOk_by (N := N_l_planted) (sc := (defScope s_l_planted)) (by decide +kernel)) (fun _ _ _ _ _ => (dg_name sc_l_planted.nd)) (fun _ _ _ _ _ => dts_nil) (fun _ _ _ _ _ => (de_if (dt_cmp op_lt ops_IB (de_ixK K (de_var 6) (de_var 4)) (de_var 9)) (de_sub (de_callX K (ok_l_draw T) (hr.mono (by decide)) hg T.m_l_draw T.F_l_draw.kp (bd_l_draw T) .nil dfl_nil (da_cons (de_var 0) (da_cons de_int da_nil))) de_int) de_int)) (by decide)) (pv 7))))
    (dss_cons (ds_for PassesOwn.never rfl (di_range1 rfl T.z_range (da_cons (de_var 2) da_nil)) (dg_name sc_l_planted.nd) (dss_cons (ds_setO 11 sc_l_planted.nd (de_lc (own := [("_law_k", 4)]) rfl sc_l_planted.nd (di_range1 rfl T.z_range (da_cons (de_var 1) da_nil)) (blkOk_by (N := N_l_planted) (sc := (defScope s_l_planted)) (by decide +kernel)) (fun _ _ _ _ _ => (dg_name sc_l_planted.nd)) (fun _ _ _ _ _ => dts_nil) (fun _ _ _ _ _ => (de_sub (de_callX K (ok_l_draw T) (hr.mono (by decide)) hg T.m_l_draw T.F_l_draw.kp (bd_l_draw T) .nil dfl_nil (da_cons (de_var 0) (da_cons de_int da_nil))) de_int)) (by decide)))
    (dss_freeA 7 (dss_cons (ds_for PassesOwn.never rfl (di_en K rfl T.z_enumerate (da_cons (de_var 7) da_nil)) (dg_tupK K rfl (dgs_cons (dg_name sc_l_planted.nd) (dgs_cons (dg_name sc_l_planted.nd) dgs_nil))) (dss_cons (ds_setLc (i := 13) rfl sc_l_planted.nd rfl rfl (sw_true rfl rfl rfl (by decide +kernel)) (own := [("_law_k", 4)]) (di_range1 rfl T.z_range (da_cons (de_var 1) da_nil)) (blkOk_by (N := N_l_planted) (sc := (defScope s_l_planted)) (by decide +kernel)) (fun _ _ _ _ _ => (dg_name sc_l_planted.nd)) (fun _ _ _ _ _ => (dts_one (dt_cmp (op_eqK K hr.units) ops_eq (de_ixK K (de_var 6) (de_var 4)) (de_var 9)))) (fun _ _ _ _ _ => (de_var 4)) (by decide))
    (dss_one (ds_setIx 11 (de_sub (de_callXF K (ok_l_dot T) (hr.mono (by decide)) hg T.m_l_dot T.F_l_dot.kp (bd_l_dot T) .nil dfl_nil (da_cons (de_var 12) (da_cons (de_var 11) da_nil))) (de_callB (call_sumB K rfl) calls_sumB rfl T.z_sum (by decide +kernel) (da_cons (de_lc (own := [("_law_k", 4)]) rfl sc_l_planted.nd (di_seqK K (de_slice K (de_var 13) do_none (do_some (de_neg de_int)))) (blkOk_by (N := N_l_planted) (sc := (defScope s_l_planted)) (by decide +kernel)) (fun _ _ _ _ _ => (dg_name sc_l_planted.nd)) (fun _ _ _ _ _ => dts_nil) (fun _ _ _ _ _ => (de_ixK K (de_var 11) (de_var 4))) (by decide)) da_nil))) (pv 11) (de_ixK K (de_var 13) (de_neg de_int))))))
    (dss_freeA 11 (dss_one (ds_append 8 (de_if (dt_cmp op_lt ops_IB (de_callB (call_maxK K rfl) calls_max rfl T.z_max (by decide +kernel) (da_cons (de_lc (own := [("_law_x", 14)]) rfl sc_l_planted.nd (di_seqK K (de_var 11)) (blkOk_by (N := N_l_planted) (sc := (defScope s_l_planted)) (by decide +kernel)) (fun _ _ _ _ _ => (dg_name sc_l_planted.nd)) (fun _ _ _ _ _ => dts_nil) (fun _ _ _ _ _ => (de_callB call_abs calls_abs rfl T.z_abs (by decide +kernel) (da_cons (de_var 14) da_nil))) (by decide)) da_nil)) de_int) (de_callTy (call_tupleK K) calls_tuple rfl T.z_tuple (by decide +kernel) (da_cons (de_var 11) da_nil)) (de_mulB K (de_tup (da_cons de_int da_nil)) (de_var 1))) (pv 8))))))))
    (dss_freeA 7 (dss_freeA 8 (dss_one (ds_ret (de_disp (dp_cons de_str (de_var 6) (dp_cons de_str (de_var 7) (dp_cons de_str (de_var 8) dp_nil)))))))))))))⟩) pf_l_planted
theorem ok_l_marks (T : Txt K mg) : FnG P w K mg base CX0 2 T.f_l_marks T.fd_l_marks ["_law_deck_here", "_law_n", "_law_t", "_law_many"] (lift K (GA T.cls fld) C_l_marks) :=
  FnG.data (FunB.of T.F_l_marks) sc_l_marks len_l_marks (fun cdv A outer s H E a c hr hg => ⟨_, (dss_cons (ds_setO 4 sc_l_marks.nd (de_lst da_nil))
    (dss_cons (ds_for PassesOwn.never rfl (di_range1 rfl T.z_range (da_cons (de_var 3) da_nil)) (dg_name sc_l_marks.nd) (dss_cons (ds_par2 6 false 7 false rfl sc_l_marks.nd (de_callTy (call_tupleK K) calls_tuple rfl T.z_tuple (by decide +kernel) (da_cons (de_lc (own := [("_law_k", 8)]) rfl sc_l_marks.nd (di_range1 rfl T.z_range (da_cons (de_var 1) da_nil)) (blkOk_by (N := N_l_marks) (sc := (defScope s_l_marks)) (by decide +kernel)) (fun _ _ _ _ _ => (dg_name sc_l_marks.nd)) (fun _ _ _ _ _ => dts_nil) (fun _ _ _ _ _ => (de_sub (de_callX K (ok_l_draw T) (hr.mono (by decide)) hg T.m_l_draw T.F_l_draw.kp (bd_l_draw T) .nil dfl_nil (da_cons (de_var 0) (da_cons de_int da_nil))) de_int)) (by decide)) da_nil)) (de_addK K de_int (de_callX K (ok_l_draw T) (hr.mono (by decide)) hg T.m_l_draw T.F_l_draw.kp (bd_l_draw T) .nil dfl_nil (da_cons (de_var 0) (da_cons de_int da_nil)))))
    (dss_one (ds_append 4 (de_tup (da_cons (de_var 6) (da_cons (de_mod (de_callTy call_int1 calls_int rfl T.z_int (by decide +kernel) (da_cons (de_mulB K (de_callB (call_sumB K rfl) calls_sumB rfl T.z_sum (by decide +kernel) (da_cons (de_var 6) da_nil)) (de_var 2)) da_nil)) (de_var 7)) (da_cons (de_var 7) da_nil)))) (pv 4)))))
    (dss_one (ds_ret (de_var 4)))))⟩) pf_l_marks
theorem ok_l_own_form (T : Txt K mg) : FnG P w K mg base CX0 1 T.f_l_own_form T.fd_l_own_form ["_law_planted_here", "_law_by"] (lift K (GA T.cls fld) C_l_own_form) :=
  FnG.data (FunB.of T.F_l_own_form) sc_l_own_form len_l_own_form (fun cdv A outer s H E a c hr hg => ⟨_, (dss_cons (ds_setO 2 sc_l_own_form.nd (de_lst da_nil))
    (dss_cons (ds_for PassesOwn.never rfl (di_en K rfl T.z_enumerate (da_cons (de_dget hr.units (de_var 0) de_str (fun _ _ => rfl)) da_nil)) (dg_tupK K rfl (dgs_cons (dg_name sc_l_own_form.nd) (dgs_cons (dg_name sc_l_own_form.nd) dgs_nil))) (dss_one (ds_append 2 (de_callTy (call_tupleK K) calls_tuple rfl T.z_tuple (by decide +kernel) (da_cons (de_lc (own := [("_law_spot", 5), ("_law_x", 6)]) rfl sc_l_own_form.nd (di_zp K rfl T.z_zip (da_cons (de_dget hr.units (de_var 0) de_str (fun _ _ => rfl)) (da_cons (de_var 4) da_nil))) (blkOk_by (N := N_l_own_form) (sc := (defScope s_l_own_form)) (by decide +kernel)) (fun _ _ _ _ _ => (dg_tupK K rfl (dgs_cons (dg_name sc_l_own_form.nd) (dgs_cons (dg_name sc_l_own_form.nd) dgs_nil)))) (fun _ _ _ _ _ => dts_nil) (fun _ _ _ _ _ => (de_mulB K (de_var 1) (de_sub (de_callTy call_int1 calls_int rfl T.z_int (by decide +kernel) (da_cons (de_cmp (op_eqK K hr.units) ops_eq (de_var 5) (de_var 3)) da_nil)) (de_var 6)))) (by decide)) da_nil)) (pv 2))))
    (dss_one (ds_ret (de_tup (da_cons (de_var 1) (da_cons (de_callTy (call_tupleK K) calls_tuple rfl T.z_tuple (by decide +kernel) (da_cons (de_dget hr.units (de_var 0) de_str (fun _ _ => rfl)) da_nil)) (da_cons (de_callTy (call_tupleK K) calls_tuple rfl T.z_tuple (by decide +kernel) (da_cons (de_var 2) da_nil)) da_nil))))))))⟩) pf_l_own_form
theorem ok_l_rewritten (T : Txt K mg) : FnG P w K mg base CX0 2 T.f_l_rewritten T.fd_l_rewritten ["_law_deck_here", "_law_it"] (lift K (GA T.cls fld) C_l_rewritten) :=
  FnG.data (FunB.of T.F_l_rewritten) sc_l_rewritten len_l_rewritten (fun cdv A outer s H E a c hr hg => ⟨_, (dss_cons (ds_par3 2 false 3 false 4 true rfl sc_l_rewritten.nd (de_ixK K (de_var 1) de_int) (de_callTy (call_listK K) calls_list rfl T.z_list (by decide +kernel) (da_cons (de_ixK K (de_var 1) de_int) da_nil)) (de_lc (own := [("_law_lot", 5)]) rfl sc_l_rewritten.nd (di_seqK K (de_ixK K (de_var 1) de_int)) (blkOk_by (N := N_l_rewritten) (sc := (defScope s_l_rewritten)) (by decide +kernel)) (fun _ _ _ _ _ => (dg_name sc_l_rewritten.nd)) (fun _ _ _ _ _ => dts_nil) (fun _ _ _ _ _ => (de_callTy (call_listK K) calls_list rfl T.z_list (by decide +kernel) (da_cons (de_var 5) da_nil))) (by decide)))
    (dss_cons (ds_for PassesOwn.never rfl (di_range2 rfl T.z_range (da_cons de_int (da_cons (de_callB (call_lenK K) calls_len rfl T.z_len (by decide +kernel) (da_cons (de_var 4) da_nil)) da_nil))) (dg_name sc_l_rewritten.nd) (dss_cons (ds_asg (de_tup (da_cons (de_sub (de_callX K (ok_l_draw T) (hr.mono (by decide)) hg T.m_l_draw T.F_l_draw.kp (bd_l_draw T) .nil dfl_nil (da_cons (de_var 0) (da_cons de_int da_nil))) de_int) (da_cons (de_ixK K (de_var 4) (de_callX K (ok_l_draw T) (hr.mono (by decide)) hg T.m_l_draw T.F_l_draw.kp (bd_l_draw T) .nil dfl_nil (da_cons (de_var 0) (da_cons (de_var 6) da_nil)))) da_nil))) (dg_tupK K rfl (dgs_cons (dg_name sc_l_rewritten.nd) (dgs_cons (dg_name sc_l_rewritten.nd) dgs_nil))))
    (dss_one (ds_setIx 4 (de_lc (own := [("_law_x", 9), ("_law_y", 10)]) rfl sc_l_rewritten.nd (di_zp K rfl T.z_zip (da_cons (de_ixK K (de_var 4) (de_var 6)) (da_cons (de_var 8) da_nil))) (blkOk_by (N := N_l_rewritten) (sc := (defScope s_l_rewritten)) (by decide +kernel)) (fun _ _ _ _ _ => (dg_tupK K rfl (dgs_cons (dg_name sc_l_rewritten.nd) (dgs_cons (dg_name sc_l_rewritten.nd) dgs_nil)))) (fun _ _ _ _ _ => dts_nil) (fun _ _ _ _ _ => (de_addK K (de_var 9) (de_mulB K (de_var 7) (de_var 10)))) (by decide)) (pv 4) (de_var 6)))))
    (dss_cons (ds_if (dt_cmp (op_eqK K hr.units) ops_eq (de_callX K (ok_l_draw T) (hr.mono (by decide)) hg T.m_l_draw T.F_l_draw.kp (bd_l_draw T) .nil dfl_nil (da_cons (de_var 0) (da_cons de_int da_nil))) de_int) (dss_cons (ds_set 7 sc_l_rewritten.nd (de_addK K de_int (de_callX K (ok_l_draw T) (hr.mono (by decide)) hg T.m_l_draw T.F_l_draw.kp (bd_l_draw T) .nil dfl_nil (da_cons (de_var 0) (da_cons (de_pow de_int de_int) da_nil)))))
    (dss_freeA 4 (dss_one (ds_par2 2 false 4 true rfl sc_l_rewritten.nd (de_mulB K (de_var 2) (de_var 7)) (de_lc (own := [("_law_lot", 5)]) rfl sc_l_rewritten.nd (di_seqK K (de_var 4)) (blkOk_by (N := N_l_rewritten) (sc := (defScope s_l_rewritten)) (by decide +kernel)) (fun _ _ _ _ _ => (dg_name sc_l_rewritten.nd)) (fun _ _ _ _ _ => dts_nil) (fun _ _ _ _ _ => (de_lc (own := [("_law_x", 9)]) rfl sc_l_rewritten.nd (di_seqK K (de_var 5)) (blkOk_by (N := N_l_rewritten) (sc := (relS { kind := .function, names := [(".0", .local), ("_law_lot", .local), ("_law_by", .free)], isGenerator := false, isCoroutine := false } (defScope s_l_rewritten))) (by decide +kernel)) (fun _ _ _ _ _ => (dg_name sc_l_rewritten.nd)) (fun _ _ _ _ _ => dts_nil) (fun _ _ _ _ _ => (de_mulB K (de_var 9) (de_var 7))) (by decide))) (by decide)))))) dss_nil)
    (dss_cons (ds_if (dt_cmp (op_eqK K hr.units) ops_eq (de_callX K (ok_l_draw T) (hr.mono (by decide)) hg T.m_l_draw T.F_l_draw.kp (bd_l_draw T) .nil dfl_nil (da_cons (de_var 0) (da_cons de_int da_nil))) de_int) (dss_cons (ds_set 11 sc_l_rewritten.nd (de_callX K (ok_l_draw T) (hr.mono (by decide)) hg T.m_l_draw T.F_l_draw.kp (bd_l_draw T) .nil dfl_nil (da_cons (de_var 0) (da_cons (de_addK K (de_callB (call_lenK K) calls_len rfl T.z_len (by decide +kernel) (da_cons (de_var 4) da_nil)) de_int) da_nil))))
    (dss_cons (ds_insert 4 (de_var 11) (de_mulB K (de_lst (da_cons de_int da_nil)) (de_callB (call_lenK K) calls_len rfl T.z_len (by decide +kernel) (da_cons (de_var 3) da_nil))) (pv 4))
    (dss_one (ds_setLc (i := 3) rfl sc_l_rewritten.nd rfl rfl (sw_true rfl rfl rfl (by decide +kernel)) (own := [("_law_k", 6)]) (di_seqK K (de_var 3)) (blkOk_by (N := N_l_rewritten) (sc := (defScope s_l_rewritten)) (by decide +kernel)) (fun _ _ _ _ _ => (dg_name sc_l_rewritten.nd)) (fun _ _ _ _ _ => dts_nil) (fun _ _ _ _ _ => (de_addK K (de_var 6) (de_callTy call_int1 calls_int rfl T.z_int (by decide +kernel) (da_cons (de_cmp op_ge ops_IB (de_var 6) (de_var 11)) da_nil)))) (by decide))))) dss_nil)
    (dss_cons (ds_for PassesOwn.never rfl (di_range1 rfl T.z_range (da_cons (de_callX K (ok_l_draw T) (hr.mono (by decide)) hg T.m_l_draw T.F_l_draw.kp (bd_l_draw T) .nil dfl_nil (da_cons (de_var 0) (da_cons de_int da_nil))) da_nil)) (dg_name sc_l_rewritten.nd) (dss_cons (ds_set 7 sc_l_rewritten.nd (de_sub (de_callX K (ok_l_draw T) (hr.mono (by decide)) hg T.m_l_draw T.F_l_draw.kp (bd_l_draw T) .nil dfl_nil (da_cons (de_var 0) (da_cons de_int da_nil))) de_int))
    (dss_one (ds_append 4 (de_lc (own := [("_law_x", 9)]) rfl sc_l_rewritten.nd (di_seqK K (de_ixK K (de_var 4) (de_callX K (ok_l_draw T) (hr.mono (by decide)) hg T.m_l_draw T.F_l_draw.kp (bd_l_draw T) .nil dfl_nil (da_cons (de_var 0) (da_cons (de_callB (call_lenK K) calls_len rfl T.z_len (by decide +kernel) (da_cons (de_var 4) da_nil)) da_nil))))) (blkOk_by (N := N_l_rewritten) (sc := (defScope s_l_rewritten)) (by decide +kernel)) (fun _ _ _ _ _ => (dg_name sc_l_rewritten.nd)) (fun _ _ _ _ _ => dts_nil) (fun _ _ _ _ _ => (de_mulB K (de_var 7) (de_var 9))) (by decide)) (pv 4)))))
    (dss_freeA 4 (dss_one (ds_ret (de_tup (da_cons (de_var 2) (da_cons (de_callTy (call_tupleK K) calls_tuple rfl T.z_tuple (by decide +kernel) (da_cons (de_var 3) da_nil)) (da_cons (de_callTy (call_tupleK K) calls_tuple rfl T.z_tuple (by decide +kernel) (da_cons (de_lc (own := [("_law_lot", 5)]) rfl sc_l_rewritten.nd (di_seqK K (de_var 4)) (blkOk_by (N := N_l_rewritten) (sc := (defScope s_l_rewritten)) (by decide +kernel)) (fun _ _ _ _ _ => (dg_name sc_l_rewritten.nd)) (fun _ _ _ _ _ => dts_nil) (fun _ _ _ _ _ => (de_callTy (call_tupleK K) calls_tuple rfl T.z_tuple (by decide +kernel) (da_cons (de_var 5) da_nil))) (by decide)) da_nil)) da_nil))))))))))))⟩) pf_l_rewritten
theorem ok_l_apart (T : Txt K mg) : FnG P w K mg base CX0 2 T.f_l_apart T.fd_l_apart ["_law_deck_here", "_law_w", "_law_many"] (lift K (GA T.cls fld) C_l_apart) :=
  FnG.data (FunB.of T.F_l_apart) sc_l_apart len_l_apart (fun cdv A outer s H E a c hr hg => ⟨_, (dss_cons (ds_par2 3 true 4 false rfl sc_l_apart.nd (de_lst da_nil) (de_callB (call_lenK K) calls_len rfl T.z_len (by decide +kernel) (da_cons (de_wk (de_dget hr.units (de_var 1) de_str (fun _ _ => rfl))) da_nil)))
    (dss_cons (ds_for PassesOwn.never rfl (di_range1 rfl T.z_range (da_cons (de_if (dt_cmp op_gt ops_IB (de_var 4) de_int) (de_var 2) de_int) da_nil)) (dg_name sc_l_apart.nd) (dss_cons (ds_set 6 sc_l_apart.nd (de_callX K (ok_l_draw T) (hr.mono (by decide)) hg T.m_l_draw T.F_l_draw.kp (bd_l_draw T) .nil dfl_nil (da_cons (de_var 0) (da_cons (de_var 4) da_nil))))
    (dss_cons (ds_set 7 sc_l_apart.nd (de_mod (de_addK K (de_addK K (de_var 6) de_int) (de_callX K (ok_l_draw T) (hr.mono (by decide)) hg T.m_l_draw T.F_l_draw.kp (bd_l_draw T) .nil dfl_nil (da_cons (de_var 0) (da_cons (de_sub (de_var 4) de_int) da_nil)))) (de_var 4)))
    (dss_one (ds_append 3 (de_tup (da_cons (de_ixK K (de_wk (de_dget hr.units (de_var 1) de_str (fun _ _ => rfl))) (de_var 6)) (da_cons (de_ixK K (de_wk (de_dget hr.units (de_var 1) de_str (fun _ _ => rfl))) (de_var 7)) da_nil))) (pv 3))))))
    (dss_one (ds_ret (de_callTy (call_tupleK K) calls_tuple rfl T.z_tuple (by decide +kernel) (da_cons (de_var 3) da_nil))))))⟩) pf_l_apart
theorem ok_l_are_parted (T : Txt K mg) : FnG P w K mg base CX0 1 T.f_l_are_parted T.fd_l_are_parted ["_law_w", "_law_lots", "_law_apart_here"] (lift K (GA T.cls fld) C_l_are_parted) :=
  FnG.data (FunB.of T.F_l_are_parted) sc_l_are_parted len_l_are_parted (fun cdv A outer s H E a c hr hg => ⟨_, (dss_cons (ds_for PassesOwn.never rfl (di_seqK K (de_var 2)) (dg_tupK K rfl (dgs_cons (dg_name sc_l_are_parted.nd) (dgs_cons (dg_name sc_l_are_parted.nd) dgs_nil))) (dss_cons (ds_asg (de_tup (da_cons (de_idxP K (de_dget hr.units (de_var 0) de_str (fun _ _ => rfl)) (de_var 3)) (da_cons (de_idxP K (de_dget hr.units (de_var 0) de_str (fun _ _ => rfl)) (de_var 4)) da_nil))) (dg_tupK K rfl (dgs_cons (dg_name sc_l_are_parted.nd) (dgs_cons (dg_name sc_l_are_parted.nd) dgs_nil))))
    (dss_one (ds_if (dt_cmp (op_eqK K hr.units) ops_eq (de_lc (own := [("_law_lot", 7)]) rfl sc_l_are_parted.nd (di_seqK K (de_var 1)) (blkOk_by (N := N_l_are_parted) (sc := (defScope s_l_are_parted)) (by decide +kernel)) (fun _ _ _ _ _ => (dg_name sc_l_are_parted.nd)) (fun _ _ _ _ _ => (dts_one (dt_cmp (op_neK K hr.units) ops_ne (de_ixK K (de_var 7) (de_var 5)) (de_ixK K (de_var 7) (de_var 6))))) (fun _ _ _ _ _ => (de_var 7)) (by decide)) (de_lst da_nil)) (dss_one (ds_ret de_bl)) dss_nil))))
    (dss_one (ds_ret de_bl)))⟩) pf_l_are_parted
theorem ok_l_sure_world (T : Txt K mg) : FnG P w K mg base CX0 3 T.f_l_sure_world T.fd_l_sure_world ["_law_deck_here"] (lift K (GA T.cls fld) C_l_sure_world) :=
  FnG.data (FunB.of T.F_l_sure_world) sc_l_sure_world len_l_sure_world (fun cdv A outer s H E a c hr hg => ⟨_, (dss_cons (ds_asg (de_tup (da_cons (de_addK K de_int (de_callX K (ok_l_draw T) (hr.mono (by decide)) hg T.m_l_draw T.F_l_draw.kp (bd_l_draw T) .nil dfl_nil (da_cons (de_var 0) (da_cons de_int da_nil)))) (da_cons (de_sub (de_callX K (ok_l_draw T) (hr.mono (by decide)) hg T.m_l_draw T.F_l_draw.kp (bd_l_draw T) .nil dfl_nil (da_cons (de_var 0) (da_cons de_int da_nil))) de_int) da_nil))) (dg_tupK K rfl (dgs_cons (dg_name sc_l_sure_world.nd) (dgs_cons (dg_name sc_l_sure_world.nd) dgs_nil))))
    (dss_cons (ds_par2 3 false 4 false rfl sc_l_sure_world.nd (de_callX K (ok_l_planted T) (hr.mono (by decide)) hg T.m_l_planted T.F_l_planted.kp (bd_l_planted T) .nil dfl_nil (da_cons (de_var 0) (da_cons (de_var 1) (da_cons (de_addK K de_int (de_callX K (ok_l_draw T) (hr.mono (by decide)) hg T.m_l_draw T.F_l_draw.kp (bd_l_draw T) .nil dfl_nil (da_cons (de_var 0) (da_cons de_int da_nil)))) da_nil)))) (de_addK K de_int (de_callX K (ok_l_draw T) (hr.mono (by decide)) hg T.m_l_draw T.F_l_draw.kp (bd_l_draw T) .nil dfl_nil (da_cons (de_var 0) (da_cons de_int da_nil)))))
    (dss_cons (ds_if (dt_cmp op_gt ops_IB (de_callB (call_maxK K rfl) calls_max rfl T.z_max (by decide +kernel) (da_cons (de_lc (own := [("_law_some", 5)]) rfl sc_l_sure_world.nd (di_seqK K (de_dget hr.units (de_var 3) de_str (fun _ _ => rfl))) (blkOk_by (N := N_l_sure_world) (sc := (defScope s_l_sure_world)) (by decide +kernel)) (fun _ _ _ _ _ => (dg_name sc_l_sure_world.nd)) (fun _ _ _ _ _ => dts_nil) (fun _ _ _ _ _ => (de_callB call_abs calls_abs rfl T.z_abs (by decide +kernel) (da_cons (de_mulB K (de_callB (call_sumB K rfl) calls_sumB rfl T.z_sum (by decide +kernel) (da_cons (de_var 5) da_nil)) (de_var 2)) da_nil))) (by decide)) da_nil)) de_int) (dss_one (ds_set 2 sc_l_sure_world.nd de_int)) dss_nil)
    (dss_cons (ds_setO 6 sc_l_sure_world.nd (de_disp (dp_cons de_str (de_callX K (ok_l_called T) (hr.mono (by decide)) hg T.m_l_called T.F_l_called.kp (bd_l_called T) .nil dfl_nil (da_cons (de_var 0) (da_cons (de_var 1) da_nil))) (dp_cons de_str (de_callX K (ok_l_marks T) (hr.mono (by decide)) hg T.m_l_marks T.F_l_marks.kp (bd_l_marks T) .nil dfl_nil (da_cons (de_var 0) (da_cons (de_var 1) (da_cons (de_var 2) (da_cons (de_callX K (ok_l_draw T) (hr.mono (by decide)) hg T.m_l_draw T.F_l_draw.kp (bd_l_draw T) .nil dfl_nil (da_cons (de_var 0) (da_cons de_int da_nil))) da_nil))))) dp_nil))))
    (dss_cons (ds_dput 6 hr.units (de_lc (own := [("_law_some", 5)]) rfl sc_l_sure_world.nd (di_seqK K (de_dget hr.units (de_var 3) de_str (fun _ _ => rfl))) (blkOk_by (N := N_l_sure_world) (sc := (defScope s_l_sure_world)) (by decide +kernel)) (fun _ _ _ _ _ => (dg_name sc_l_sure_world.nd)) (fun _ _ _ _ _ => dts_nil) (fun _ _ _ _ _ => (de_tup (da_cons (de_var 5) (da_cons (de_mulB K (de_callB (call_sumB K rfl) calls_sumB rfl T.z_sum (by decide +kernel) (da_cons (de_var 5) da_nil)) (de_var 2)) da_nil)))) (by decide)) (pv 6) de_str)
    (dss_cons (ds_for PassesOwn.never rfl (di_seqK K (de_dget hr.units (de_var 6) de_str (fun _ _ => rfl))) (dg_tupK K rfl (dgs_cons (dg_name sc_l_sure_world.nd) (dgs_cons (dg_name sc_l_sure_world.nd) (dgs_cons (dg_name sc_l_sure_world.nd) dgs_nil)))) (dss_one (ds_set 4 sc_l_sure_world.nd (de_mulB K (de_var 4) (de_var 9)))))
    (dss_freeA 6 (dss_one (ds_ret (de_tup (da_cons (de_var 6) (da_cons (de_var 2) (da_cons (de_callX K (ok_l_own_form T) (hr.mono (by decide)) hg T.m_l_own_form T.F_l_own_form.kp (bd_l_own_form T) .nil dfl_nil (da_cons (de_var 3) (da_cons (de_var 4) da_nil))) da_nil)))))))))))))⟩) pf_l_sure_world
theorem ok_l_is_told (T : Txt K mg) : FnG P w K mg base CX0 6 T.f_l_is_told T.fd_l_is_told ["_law_code_here", "_law_it", "_law_apart_here", "_law_due"] (lift K (GA T.cls fld) C_l_is_told) :=
  FnG.data (FunB.of T.F_l_is_told) sc_l_is_told len_l_is_told (fun cdv A outer s H E a c hr hg => ⟨_, (dss_cons (ds_set 4 sc_l_is_told.nd (de_callB (call_reprK K hg hr.units) calls_repr rfl T.z_repr (by decide +kernel) (da_cons (de_var 1) da_nil)))
    (dss_cons (ds_set 5 sc_l_is_told.nd (de_lst (da_cons (de_callXK K (ok_verdict_holds T) (hr.mono (by decide)) hg T.m_verdict_holds T.FD_verdict_holds.kp (kb_verdict_holds_1 T) .nil dfl_nil (da_cons (de_var 0) (da_cons (de_var 1) da_nil)) (dk_cons (de_var 2) dk_nil)) (da_cons (de_callXK K (ok_verdict_holds T) (hr.mono (by decide)) hg T.m_verdict_holds T.FD_verdict_holds.kp (kb_verdict_holds_0 T).choose_spec.2 (kb_verdict_holds_0 T).choose_spec.1 (Dfl.cons (d := .tup []) (let ⟨_, _, l, c, d⟩ := T.dp_verdict_holds_0; rep_tup0 l c d) dfl_nil) (da_cons (de_var 0) (da_cons (de_var 1) da_nil)) dk_nil) da_nil))))
    (dss_one (ds_ret (de_and (de_cmp (op_eqK K hr.units) ops_eq (de_callB (call_reprK K hg hr.units) calls_repr rfl T.z_repr (by decide +kernel) (da_cons (de_var 5) da_nil)) (de_callB (call_reprK K hg hr.units) calls_repr rfl T.z_repr (by decide +kernel) (da_cons (de_var 3) da_nil))) (de_one (de_cmp (op_eqK K hr.units) ops_eq (de_callB (call_reprK K hg hr.units) calls_repr rfl T.z_repr (by decide +kernel) (da_cons (de_var 1) da_nil)) (de_var 4))))))))⟩) pf_l_is_told
theorem ok_l_right (T : Txt K mg) : FnG P w K mg base CX0 7 T.f_l_right T.fd_l_right ["_law_deck_here"] (lift K (GA T.cls fld) C_l_right) :=
  FnG.data (FunB.of T.F_l_right) sc_l_right len_l_right (fun cdv A outer s H E a c hr hg => ⟨_, (dss_cons (ds_asg (de_callX K (ok_l_sure_world T) (hr.mono (by decide)) hg T.m_l_sure_world T.F_l_sure_world.kp (bd_l_sure_world T) .nil dfl_nil (da_cons (de_var 0) da_nil)) (dg_tupK K rfl (dgs_cons (dg_name sc_l_right.nd) (dgs_cons (dg_name sc_l_right.nd) (dgs_cons (dg_name sc_l_right.nd) dgs_nil)))))
    (dss_cons (ds_par2 4 false 5 false rfl sc_l_right.nd (de_callX K (ok_l_code T) (hr.mono (by decide)) hg T.m_l_code T.F_l_code.kp (bd_l_code T) .nil dfl_nil (da_cons (de_var 1) da_nil)) (de_callX K (ok_l_apart T) (hr.mono (by decide)) hg T.m_l_apart T.F_l_apart.kp (bd_l_apart T) .nil dfl_nil (da_cons (de_var 0) (da_cons (de_var 1) (da_cons (de_callX K (ok_l_draw T) (hr.mono (by decide)) hg T.m_l_draw T.F_l_draw.kp (bd_l_draw T) .nil dfl_nil (da_cons (de_var 0) (da_cons de_int da_nil))) da_nil)))))
    (dss_cons (ds_for PassesOwn.never rfl (di_seqK K (de_tup (da_cons (de_var 3) (da_cons (de_callX K (ok_l_rewritten T) (hr.mono (by decide)) hg T.m_l_rewritten T.F_l_rewritten.kp (bd_l_rewritten T) .nil dfl_nil (da_cons (de_var 0) (da_cons (de_var 3) da_nil))) da_nil)))) (dg_name sc_l_right.nd) (dss_one (ds_if (dt_not (dt_val (de_callX K (ok_l_is_told T) (hr.mono (by decide)) hg T.m_l_is_told T.F_l_is_told.kp (bd_l_is_told T) .nil dfl_nil (da_cons (de_var 4) (da_cons (de_tup (da_cons de_str (da_cons (de_var 2) (da_cons (de_var 6) da_nil)))) (da_cons (de_var 5) (da_cons (de_lst (da_cons (de_callX K (ok_l_are_parted T) (hr.mono (by decide)) hg T.m_l_are_parted T.F_l_are_parted.kp (bd_l_are_parted T) .nil dfl_nil (da_cons (de_var 1) (da_cons (de_ixK K (de_var 6) de_int) (da_cons (de_var 5) da_nil)))) (da_cons de_bl da_nil))) da_nil))))))) (dss_one (ds_ret de_bl)) dss_nil)))
    (dss_cons (ds_setLc (i := 7) rfl sc_l_right.nd rfl rfl (sw_true rfl rfl rfl (by decide +kernel)) (own := [("_law_k", 8)]) (di_range2 rfl T.z_range (da_cons (de_neg de_int) (da_cons de_int da_nil))) (blkOk_by (N := N_l_right) (sc := (defScope s_l_right)) (by decide +kernel)) (fun _ _ _ _ _ => (dg_name sc_l_right.nd)) (fun _ _ _ _ _ => (dts_one (dt_val (de_callX K (ok_l_is_met T) (hr.mono (by decide)) hg T.m_l_is_met T.F_l_is_met.kp (bd_l_is_met T) .nil dfl_nil (da_cons (de_var 1) (da_cons (de_mulB K (de_tup (da_cons (de_var 8) da_nil)) (de_callB (call_lenK K) calls_len rfl T.z_len (by decide +kernel) (da_cons (de_wk (de_dget hr.units (de_var 1) de_str (fun _ _ => rfl))) da_nil))) da_nil)))))) (fun _ _ _ _ _ => (de_var 8)) (by decide))
    (dss_cons (ds_for PassesOwn.never rfl (di_seqK K (de_addK K (de_addK K (de_slice K (de_var 7) do_none (do_some de_int)) (de_slice K (de_var 7) (do_some (de_neg de_int)) do_none)) (de_lst (da_cons (de_addK K (de_ixK K (de_var 7) de_int) de_int) da_nil)))) (dg_name sc_l_right.nd) (dss_cons (ds_par2 9 false 10 false rfl sc_l_right.nd (de_cmp (op_inK K) ops_in (de_var 8) (de_var 7)) (de_cmp (op_eqK K hr.units) ops_eq (de_var 5) (de_tup da_nil)))
    (dss_cons (ds_if (dt_not (dt_val (de_callX K (ok_l_is_told T) (hr.mono (by decide)) hg T.m_l_is_told T.F_l_is_told.kp (bd_l_is_told T) .nil dfl_nil (da_cons (de_var 4) (da_cons (de_tup (da_cons de_str (da_cons (de_var 8) da_nil))) (da_cons (de_var 5) (da_cons (de_lst (da_cons (de_and (de_var 9) (de_and (de_var 10) (de_one (de_cmp op_gt ops_IB (de_var 8) de_int)))) (da_cons (de_and (de_var 9) (de_one (de_cmp op_gt ops_IB (de_var 8) de_int))) da_nil))) da_nil))))))) (dss_one (ds_ret de_bl)) dss_nil)
    (dss_one (ds_if (dt_not (dt_val (de_callX K (ok_l_is_told T) (hr.mono (by decide)) hg T.m_l_is_told T.F_l_is_told.kp (bd_l_is_told T) .nil dfl_nil (da_cons (de_var 4) (da_cons (de_tup (da_cons de_str (da_cons (de_var 8) (da_cons (de_var 3) da_nil)))) (da_cons (de_var 5) (da_cons (de_lst (da_cons (de_and (de_var 9) (de_one (de_callX K (ok_l_are_parted T) (hr.mono (by decide)) hg T.m_l_are_parted T.F_l_are_parted.kp (bd_l_are_parted T) .nil dfl_nil (da_cons (de_var 1) (da_cons (de_ixK K (de_var 3) de_int) (da_cons (de_var 5) da_nil)))))) (da_cons (de_var 9) da_nil))) da_nil))))))) (dss_one (ds_ret de_bl)) dss_nil)))))
    (dss_one (ds_ret de_bl)))))))⟩) pf_l_right
theorem ok_law (T : Txt K mg) : FnG P w K mg base CX0 8 T.f_law T.fd_law ["_law_script"] (spLaw K) := by
  refine FnG.of (FunB.of T.F_law) sc_law (fun vs H Q E ⟨a, ns, e, _⟩ => by rw [e]; rfl) fun cdv A outer s H vs Q E hr hg h => ?_
  obtain ⟨t, D⟩ : ∃ t, ∀ a c, DSs (cxOf CX0 P w K mg base N_law "law" (defScope s_law) T.f_law cdv A outer s H E).nox (GA T.cls fld a c) ((defBody s_law).drop 1) t w_law :=
    ⟨_, fun a c => (dss_cons (ds_for PassesOwn.never rfl (di_range1 rfl T.z_range (da_cons de_int da_nil)) (dg_name sc_law.nd) (dss_one (ds_if (dt_not (dt_val (de_callX K (ok_l_right T) (hr.mono (by decide)) hg T.m_l_right T.F_l_right.kp (bd_l_right T) .nil dfl_nil (da_cons (de_var 1) da_nil)))) (dss_one (ds_ret de_bl)) dss_nil)))
    (dss_one (ds_ret de_bl)))⟩
  have D1 : PSs (cxOf CX0 P w K mg base N_law "law" (defScope s_law) T.f_law cdv A outer s H E).nox (defBody s_law) (tSeq (tAsg (tCall (spDeckA K) [] E0 (tCons (tVar 0) tNil)) (gName 1)) t) :=
    pss_cons (ps_set (i := 1) sc_law.nd rfl (by first | exact .inl rfl | exact .inr rfl) (pg_call (ok_l_deck T) (hr.mono (by decide)) hg rfl T.m_l_deck T.F_l_deck.kp (bd_l_deck T) .nil pass0 (pa_cons (pv 0) pa_nil))) (D 0 0).ps
  exact ⟨_, D1.nox, rd_lawA (by decide) (fun p c => (D p c).sim) pf_law h⟩
end
theorem all_mk {l : PySem.W.OpenLaw} {w : World} {K : PySem.W.Frag} {h : Heap} {mg : Str → Option Value} {fa : Addr} (X : K.In h) (G : h.Ns mainGlobals mg) (hfa : mg "law" = some (.ref fa))
    {C0 : Addr}
    (nc0 : PySem.W.nsIn K mainGlobals "System" = some (some (.ref C0))) (pa0 : PySem.W.plainGet K C0 Str.empty = true) (pb0 : PySem.W.hasDictIn K C0 = true) (pc0 : PySem.W.plainOver K C0 = true) (pd0 : PySem.W.findIn K (.ref C0) "__setattr__" = some (some (.builtin "object.__setattr__"))) (pe0 : PySem.W.makesIn K C0 = true) (pk0 : PySem.W.keepIn K (.ref C0) = true)
    (na0_0 : PySem.W.findIn K (.ref C0) "names" = some none)
    (na0_1 : PySem.W.findIn K (.ref C0) "rows" = some none)
    (na0_2 : PySem.W.findIn K (.ref C0) "rests" = some none)
    {f0 : Addr} {od0 an0 : Option Addr} {sl0 : Array (Option Value)} {oc0 dc0 pm0 cd0 ct0 : Value} {kV0 : Value}
    (a0 : PySem.W.nsIn K mainGlobals "product_sum" = some (some (.ref f0)))
    (l0 : K.lookup f0 = some ⟨oc0, od0, .func (PySem.W.fnOf "product_sum" "product_sum" (defArgs s_product_sum) (defBody s_product_sum) (defScope s_product_sum) .none kV0 dc0 pm0 an0 cd0 ct0), sl0⟩) (c0 : PySem.W.codeIn K cd0 "product_sum" = true) (k0 : PySem.W.keepIn K (.ref f0) = true)
    {f1 : Addr} {od1 an1 : Option Addr} {sl1 : Array (Option Value)} {oc1 dc1 pm1 cd1 ct1 : Value} {kV1 : Value}
    (a1 : PySem.W.findIn K (.ref C0) "__init__" = some (some (.ref f1))) (i1 : PySem.W.isFn K (.ref f1) = true)
    {T1 : Addr} {oT1 : Value} {dT1 : Option Addr} {mT1 : Nat} {sT1 : Array (Option Value)}
    (l1 : K.lookup f1 = some ⟨oc1, od1, .func (PySem.W.fnOf "__init__" "System.__init__" (defArgs s_System_uinitu) (defBody s_System_uinitu) (defScope s_System_uinitu) (.ref T1) kV1 dc1 pm1 an1 cd1 ct1), sl1⟩) (c1 : PySem.W.codeIn K cd1 "System.__init__" = true) (k1 : PySem.W.keepIn K (.ref f1) = true)
    {E1_0 : Addr} {dE1_0 : Option Addr} {mE1_0 : Nat} {sE1_0 : Array (Option Value)}
    (lT1 : K.lookup T1 = some ⟨oT1, dT1, .seq #[.ref E1_0] mT1, sT1⟩)
    (lE1_0 : K.lookup E1_0 = some ⟨.type "tuple", dE1_0, .seq #[] mE1_0, sE1_0⟩)
    {f2 : Addr} {od2 an2 : Option Addr} {sl2 : Array (Option Value)} {oc2 dc2 pm2 cd2 ct2 : Value} {kV2 : Value}
    (a2 : PySem.W.findIn K (.ref C0) "fulfils" = some (some (.ref f2))) (i2 : PySem.W.isFn K (.ref f2) = true)
    (l2 : K.lookup f2 = some ⟨oc2, od2, .func (PySem.W.fnOf "fulfils" "System.fulfils" (defArgs s_System_fulfils) (defBody s_System_fulfils) (defScope s_System_fulfils) .none kV2 dc2 pm2 an2 cd2 ct2), sl2⟩) (c2 : PySem.W.codeIn K cd2 "System.fulfils" = true) (k2 : PySem.W.keepIn K (.ref f2) = true)
    {f3 : Addr} {od3 an3 : Option Addr} {sl3 : Array (Option Value)} {oc3 dc3 pm3 cd3 ct3 : Value} {kV3 : Value}
    (a3 : PySem.W.nsIn K mainGlobals "is_integer" = some (some (.ref f3)))
    (l3 : K.lookup f3 = some ⟨oc3, od3, .func (PySem.W.fnOf "is_integer" "is_integer" (defArgs s_is_integer) (defBody s_is_integer) (defScope s_is_integer) .none kV3 dc3 pm3 an3 cd3 ct3), sl3⟩) (c3 : PySem.W.codeIn K cd3 "is_integer" = true) (k3 : PySem.W.keepIn K (.ref f3) = true)
    {f4 : Addr} {od4 an4 : Option Addr} {sl4 : Array (Option Value)} {oc4 dc4 pm4 cd4 ct4 : Value} {kV4 : Value}
    (a4 : PySem.W.nsIn K mainGlobals "is_move" = some (some (.ref f4)))
    (l4 : K.lookup f4 = some ⟨oc4, od4, .func (PySem.W.fnOf "is_move" "is_move" (defArgs s_is_move) (defBody s_is_move) (defScope s_is_move) .none kV4 dc4 pm4 an4 cd4 ct4), sl4⟩) (c4 : PySem.W.codeIn K cd4 "is_move" = true) (k4 : PySem.W.keepIn K (.ref f4) = true)
    {f5 : Addr} {od5 an5 : Option Addr} {sl5 : Array (Option Value)} {oc5 dc5 pm5 cd5 ct5 : Value} {kV5 : Value}
    (a5 : PySem.W.nsIn K mainGlobals "is_front" = some (some (.ref f5)))
    (l5 : K.lookup f5 = some ⟨oc5, od5, .func (PySem.W.fnOf "is_front" "is_front" (defArgs s_is_front) (defBody s_is_front) (defScope s_is_front) .none kV5 dc5 pm5 an5 cd5 ct5), sl5⟩) (c5 : PySem.W.codeIn K cd5 "is_front" = true) (k5 : PySem.W.keepIn K (.ref f5) = true)
    {f6 : Addr} {od6 an6 : Option Addr} {sl6 : Array (Option Value)} {oc6 dc6 pm6 cd6 ct6 : Value} {kV6 : Value}
    (a6 : PySem.W.nsIn K mainGlobals "form_holds" = some (some (.ref f6)))
    (l6 : K.lookup f6 = some ⟨oc6, od6, .func (PySem.W.fnOf "form_holds" "form_holds" (defArgs s_form_holds) (defBody s_form_holds) (defScope s_form_holds) .none kV6 dc6 pm6 an6 cd6 ct6), sl6⟩) (c6 : PySem.W.codeIn K cd6 "form_holds" = true) (k6 : PySem.W.keepIn K (.ref f6) = true)
    {f7 : Addr} {od7 an7 : Option Addr} {sl7 : Array (Option Value)} {oc7 dc7 pm7 cd7 ct7 : Value} {kV7 : Value}
    (a7 : PySem.W.nsIn K mainGlobals "places_of_pair" = some (some (.ref f7)))
    (l7 : K.lookup f7 = some ⟨oc7, od7, .func (PySem.W.fnOf "places_of_pair" "places_of_pair" (defArgs s_places_of_pair) (defBody s_places_of_pair) (defScope s_places_of_pair) .none kV7 dc7 pm7 an7 cd7 ct7), sl7⟩) (c7 : PySem.W.codeIn K cd7 "places_of_pair" = true) (k7 : PySem.W.keepIn K (.ref f7) = true)
    {f8 : Addr} {od8 an8 : Option Addr} {sl8 : Array (Option Value)} {oc8 dc8 pm8 cd8 ct8 : Value} {kV8 : Value}
    (a8 : PySem.W.nsIn K mainGlobals "is_parted" = some (some (.ref f8)))
    (l8 : K.lookup f8 = some ⟨oc8, od8, .func (PySem.W.fnOf "is_parted" "is_parted" (defArgs s_is_parted) (defBody s_is_parted) (defScope s_is_parted) .none kV8 dc8 pm8 an8 cd8 ct8), sl8⟩) (c8 : PySem.W.codeIn K cd8 "is_parted" = true) (k8 : PySem.W.keepIn K (.ref f8) = true)
    {f9 : Addr} {od9 an9 : Option Addr} {sl9 : Array (Option Value)} {oc9 dc9 pm9 cd9 ct9 : Value} {kV9 : Value}
    (a9 : PySem.W.nsIn K mainGlobals "is_alike" = some (some (.ref f9)))
    (l9 : K.lookup f9 = some ⟨oc9, od9, .func (PySem.W.fnOf "is_alike" "is_alike" (defArgs s_is_alike) (defBody s_is_alike) (defScope s_is_alike) .none kV9 dc9 pm9 an9 cd9 ct9), sl9⟩) (c9 : PySem.W.codeIn K cd9 "is_alike" = true) (k9 : PySem.W.keepIn K (.ref f9) = true)
    {f10 : Addr} {od10 an10 : Option Addr} {sl10 : Array (Option Value)} {oc10 dc10 pm10 cd10 ct10 : Value} {kV10 : Value}
    (a10 : PySem.W.nsIn K mainGlobals "is_modulo_right" = some (some (.ref f10)))
    (l10 : K.lookup f10 = some ⟨oc10, od10, .func (PySem.W.fnOf "is_modulo_right" "is_modulo_right" (defArgs s_is_modulo_right) (defBody s_is_modulo_right) (defScope s_is_modulo_right) .none kV10 dc10 pm10 an10 cd10 ct10), sl10⟩) (c10 : PySem.W.codeIn K cd10 "is_modulo_right" = true) (k10 : PySem.W.keepIn K (.ref f10) = true)
    {f11 : Addr} {od11 an11 : Option Addr} {sl11 : Array (Option Value)} {oc11 dc11 pm11 cd11 ct11 : Value} {kV11 : Value}
    (a11 : PySem.W.nsIn K mainGlobals "is_alike_right" = some (some (.ref f11)))
    (l11 : K.lookup f11 = some ⟨oc11, od11, .func (PySem.W.fnOf "is_alike_right" "is_alike_right" (defArgs s_is_alike_right) (defBody s_is_alike_right) (defScope s_is_alike_right) .none kV11 dc11 pm11 an11 cd11 ct11), sl11⟩) (c11 : PySem.W.codeIn K cd11 "is_alike_right" = true) (k11 : PySem.W.keepIn K (.ref f11) = true)
    {f12 : Addr} {od12 an12 : Option Addr} {sl12 : Array (Option Value)} {oc12 dc12 pm12 cd12 ct12 : Value} {kV12 : Value}
    (a12 : PySem.W.nsIn K mainGlobals "is_never_right" = some (some (.ref f12)))
    (l12 : K.lookup f12 = some ⟨oc12, od12, .func (PySem.W.fnOf "is_never_right" "is_never_right" (defArgs s_is_never_right) (defBody s_is_never_right) (defScope s_is_never_right) .none kV12 dc12 pm12 an12 cd12 ct12), sl12⟩) (c12 : PySem.W.codeIn K cd12 "is_never_right" = true) (k12 : PySem.W.keepIn K (.ref f12) = true)
    {f13 : Addr} {od13 an13 : Option Addr} {sl13 : Array (Option Value)} {oc13 dc13 pm13 cd13 ct13 : Value} {kV13 : Value}
    (a13 : PySem.W.nsIn K mainGlobals "is_form_right" = some (some (.ref f13)))
    (l13 : K.lookup f13 = some ⟨oc13, od13, .func (PySem.W.fnOf "is_form_right" "is_form_right" (defArgs s_is_form_right) (defBody s_is_form_right) (defScope s_is_form_right) .none kV13 dc13 pm13 an13 cd13 ct13), sl13⟩) (c13 : PySem.W.codeIn K cd13 "is_form_right" = true) (k13 : PySem.W.keepIn K (.ref f13) = true)
    {f14 : Addr} {od14 an14 : Option Addr} {sl14 : Array (Option Value)} {oc14 dc14 pm14 cd14 ct14 : Value} {kV14 : Value}
    (a14 : PySem.W.nsIn K mainGlobals "is_digits_right" = some (some (.ref f14)))
    (l14 : K.lookup f14 = some ⟨oc14, od14, .func (PySem.W.fnOf "is_digits_right" "is_digits_right" (defArgs s_is_digits_right) (defBody s_is_digits_right) (defScope s_is_digits_right) .none kV14 dc14 pm14 an14 cd14 ct14), sl14⟩) (c14 : PySem.W.codeIn K cd14 "is_digits_right" = true) (k14 : PySem.W.keepIn K (.ref f14) = true)
    {f15 : Addr} {od15 an15 : Option Addr} {sl15 : Array (Option Value)} {oc15 dc15 pm15 cd15 ct15 : Value}
    (a15 : PySem.W.nsIn K mainGlobals "verdict_holds" = some (some (.ref f15)))
    {KD15 : Addr} {E15_0 : Addr} {dE15_0 : Option Addr} {mE15_0 : Nat} {sE15_0 : Array (Option Value)}
    (l15 : K.lookup f15 = some ⟨oc15, od15, .func (PySem.W.fnOf "verdict_holds" "verdict_holds" (defArgs s_verdict_holds) (defBody s_verdict_holds) (defScope s_verdict_holds) .none (.ref KD15) dc15 pm15 an15 cd15 ct15), sl15⟩) (c15 : PySem.W.codeIn K cd15 "verdict_holds" = true) (k15 : PySem.W.keepIn K (.ref f15) = true)
    (kd15 : PySem.W.nsIn K KD15 "unlike" = some (some (.ref E15_0)))
    (lE15_0 : K.lookup E15_0 = some ⟨.type "tuple", dE15_0, .seq #[] mE15_0, sE15_0⟩)
    {f16 : Addr} {od16 an16 : Option Addr} {sl16 : Array (Option Value)} {oc16 dc16 pm16 cd16 ct16 : Value} {kV16 : Value}
    (a16 : PySem.W.nsIn K mainGlobals "_law_deck" = some (some (.ref f16)))
    (l16 : K.lookup f16 = some ⟨oc16, od16, .func (PySem.W.fnOf "_law_deck" "_law_deck" (defArgs s_l_deck) (defBody s_l_deck) (defScope s_l_deck) .none kV16 dc16 pm16 an16 cd16 ct16), sl16⟩) (c16 : PySem.W.codeIn K cd16 "_law_deck" = true) (k16 : PySem.W.keepIn K (.ref f16) = true)
    {f17 : Addr} {od17 an17 : Option Addr} {sl17 : Array (Option Value)} {oc17 dc17 pm17 cd17 ct17 : Value} {kV17 : Value}
    (a17 : PySem.W.nsIn K mainGlobals "_law_draw" = some (some (.ref f17)))
    (l17 : K.lookup f17 = some ⟨oc17, od17, .func (PySem.W.fnOf "_law_draw" "_law_draw" (defArgs s_l_draw) (defBody s_l_draw) (defScope s_l_draw) .none kV17 dc17 pm17 an17 cd17 ct17), sl17⟩) (c17 : PySem.W.codeIn K cd17 "_law_draw" = true) (k17 : PySem.W.keepIn K (.ref f17) = true)
    {f18 : Addr} {od18 an18 : Option Addr} {sl18 : Array (Option Value)} {oc18 dc18 pm18 cd18 ct18 : Value} {kV18 : Value}
    (a18 : PySem.W.nsIn K mainGlobals "_law_dot" = some (some (.ref f18)))
    (l18 : K.lookup f18 = some ⟨oc18, od18, .func (PySem.W.fnOf "_law_dot" "_law_dot" (defArgs s_l_dot) (defBody s_l_dot) (defScope s_l_dot) .none kV18 dc18 pm18 an18 cd18 ct18), sl18⟩) (c18 : PySem.W.codeIn K cd18 "_law_dot" = true) (k18 : PySem.W.keepIn K (.ref f18) = true)
    {f19 : Addr} {od19 an19 : Option Addr} {sl19 : Array (Option Value)} {oc19 dc19 pm19 cd19 ct19 : Value} {kV19 : Value}
    (a19 : PySem.W.nsIn K mainGlobals "_law_code" = some (some (.ref f19)))
    (l19 : K.lookup f19 = some ⟨oc19, od19, .func (PySem.W.fnOf "_law_code" "_law_code" (defArgs s_l_code) (defBody s_l_code) (defScope s_l_code) .none kV19 dc19 pm19 an19 cd19 ct19), sl19⟩) (c19 : PySem.W.codeIn K cd19 "_law_code" = true) (k19 : PySem.W.keepIn K (.ref f19) = true)
    {f20 : Addr} {od20 an20 : Option Addr} {sl20 : Array (Option Value)} {oc20 dc20 pm20 cd20 ct20 : Value} {kV20 : Value}
    (a20 : PySem.W.nsIn K mainGlobals "_law_is_met" = some (some (.ref f20)))
    (l20 : K.lookup f20 = some ⟨oc20, od20, .func (PySem.W.fnOf "_law_is_met" "_law_is_met" (defArgs s_l_is_met) (defBody s_l_is_met) (defScope s_l_is_met) .none kV20 dc20 pm20 an20 cd20 ct20), sl20⟩) (c20 : PySem.W.codeIn K cd20 "_law_is_met" = true) (k20 : PySem.W.keepIn K (.ref f20) = true)
    {f21 : Addr} {od21 an21 : Option Addr} {sl21 : Array (Option Value)} {oc21 dc21 pm21 cd21 ct21 : Value} {kV21 : Value}
    (a21 : PySem.W.nsIn K mainGlobals "_law_called" = some (some (.ref f21)))
    (l21 : K.lookup f21 = some ⟨oc21, od21, .func (PySem.W.fnOf "_law_called" "_law_called" (defArgs s_l_called) (defBody s_l_called) (defScope s_l_called) .none kV21 dc21 pm21 an21 cd21 ct21), sl21⟩) (c21 : PySem.W.codeIn K cd21 "_law_called" = true) (k21 : PySem.W.keepIn K (.ref f21) = true)
    {f22 : Addr} {od22 an22 : Option Addr} {sl22 : Array (Option Value)} {oc22 dc22 pm22 cd22 ct22 : Value} {kV22 : Value}
    (a22 : PySem.W.nsIn K mainGlobals "_law_planted" = some (some (.ref f22)))
    (l22 : K.lookup f22 = some ⟨oc22, od22, .func (PySem.W.fnOf "_law_planted" "_law_planted" (defArgs s_l_planted) (defBody s_l_planted) (defScope s_l_planted) .none kV22 dc22 pm22 an22 cd22 ct22), sl22⟩) (c22 : PySem.W.codeIn K cd22 "_law_planted" = true) (k22 : PySem.W.keepIn K (.ref f22) = true)
    {f23 : Addr} {od23 an23 : Option Addr} {sl23 : Array (Option Value)} {oc23 dc23 pm23 cd23 ct23 : Value} {kV23 : Value}
    (a23 : PySem.W.nsIn K mainGlobals "_law_marks" = some (some (.ref f23)))
    (l23 : K.lookup f23 = some ⟨oc23, od23, .func (PySem.W.fnOf "_law_marks" "_law_marks" (defArgs s_l_marks) (defBody s_l_marks) (defScope s_l_marks) .none kV23 dc23 pm23 an23 cd23 ct23), sl23⟩) (c23 : PySem.W.codeIn K cd23 "_law_marks" = true) (k23 : PySem.W.keepIn K (.ref f23) = true)
    {f24 : Addr} {od24 an24 : Option Addr} {sl24 : Array (Option Value)} {oc24 dc24 pm24 cd24 ct24 : Value} {kV24 : Value}
    (a24 : PySem.W.nsIn K mainGlobals "_law_own_form" = some (some (.ref f24)))
    (l24 : K.lookup f24 = some ⟨oc24, od24, .func (PySem.W.fnOf "_law_own_form" "_law_own_form" (defArgs s_l_own_form) (defBody s_l_own_form) (defScope s_l_own_form) .none kV24 dc24 pm24 an24 cd24 ct24), sl24⟩) (c24 : PySem.W.codeIn K cd24 "_law_own_form" = true) (k24 : PySem.W.keepIn K (.ref f24) = true)
    {f25 : Addr} {od25 an25 : Option Addr} {sl25 : Array (Option Value)} {oc25 dc25 pm25 cd25 ct25 : Value} {kV25 : Value}
    (a25 : PySem.W.nsIn K mainGlobals "_law_rewritten" = some (some (.ref f25)))
    (l25 : K.lookup f25 = some ⟨oc25, od25, .func (PySem.W.fnOf "_law_rewritten" "_law_rewritten" (defArgs s_l_rewritten) (defBody s_l_rewritten) (defScope s_l_rewritten) .none kV25 dc25 pm25 an25 cd25 ct25), sl25⟩) (c25 : PySem.W.codeIn K cd25 "_law_rewritten" = true) (k25 : PySem.W.keepIn K (.ref f25) = true)
    {f26 : Addr} {od26 an26 : Option Addr} {sl26 : Array (Option Value)} {oc26 dc26 pm26 cd26 ct26 : Value} {kV26 : Value}
    (a26 : PySem.W.nsIn K mainGlobals "_law_apart" = some (some (.ref f26)))
    (l26 : K.lookup f26 = some ⟨oc26, od26, .func (PySem.W.fnOf "_law_apart" "_law_apart" (defArgs s_l_apart) (defBody s_l_apart) (defScope s_l_apart) .none kV26 dc26 pm26 an26 cd26 ct26), sl26⟩) (c26 : PySem.W.codeIn K cd26 "_law_apart" = true) (k26 : PySem.W.keepIn K (.ref f26) = true)
    {f27 : Addr} {od27 an27 : Option Addr} {sl27 : Array (Option Value)} {oc27 dc27 pm27 cd27 ct27 : Value} {kV27 : Value}
    (a27 : PySem.W.nsIn K mainGlobals "_law_are_parted" = some (some (.ref f27)))
    (l27 : K.lookup f27 = some ⟨oc27, od27, .func (PySem.W.fnOf "_law_are_parted" "_law_are_parted" (defArgs s_l_are_parted) (defBody s_l_are_parted) (defScope s_l_are_parted) .none kV27 dc27 pm27 an27 cd27 ct27), sl27⟩) (c27 : PySem.W.codeIn K cd27 "_law_are_parted" = true) (k27 : PySem.W.keepIn K (.ref f27) = true)
    {f28 : Addr} {od28 an28 : Option Addr} {sl28 : Array (Option Value)} {oc28 dc28 pm28 cd28 ct28 : Value} {kV28 : Value}
    (a28 : PySem.W.nsIn K mainGlobals "_law_sure_world" = some (some (.ref f28)))
    (l28 : K.lookup f28 = some ⟨oc28, od28, .func (PySem.W.fnOf "_law_sure_world" "_law_sure_world" (defArgs s_l_sure_world) (defBody s_l_sure_world) (defScope s_l_sure_world) .none kV28 dc28 pm28 an28 cd28 ct28), sl28⟩) (c28 : PySem.W.codeIn K cd28 "_law_sure_world" = true) (k28 : PySem.W.keepIn K (.ref f28) = true)
    {f29 : Addr} {od29 an29 : Option Addr} {sl29 : Array (Option Value)} {oc29 dc29 pm29 cd29 ct29 : Value} {kV29 : Value}
    (a29 : PySem.W.nsIn K mainGlobals "_law_is_told" = some (some (.ref f29)))
    (l29 : K.lookup f29 = some ⟨oc29, od29, .func (PySem.W.fnOf "_law_is_told" "_law_is_told" (defArgs s_l_is_told) (defBody s_l_is_told) (defScope s_l_is_told) .none kV29 dc29 pm29 an29 cd29 ct29), sl29⟩) (c29 : PySem.W.codeIn K cd29 "_law_is_told" = true) (k29 : PySem.W.keepIn K (.ref f29) = true)
    {f30 : Addr} {od30 an30 : Option Addr} {sl30 : Array (Option Value)} {oc30 dc30 pm30 cd30 ct30 : Value} {kV30 : Value}
    (a30 : PySem.W.nsIn K mainGlobals "_law_right" = some (some (.ref f30)))
    (l30 : K.lookup f30 = some ⟨oc30, od30, .func (PySem.W.fnOf "_law_right" "_law_right" (defArgs s_l_right) (defBody s_l_right) (defScope s_l_right) .none kV30 dc30 pm30 an30 cd30 ct30), sl30⟩) (c30 : PySem.W.codeIn K cd30 "_law_right" = true) (k30 : PySem.W.keepIn K (.ref f30) = true)
    {f31 : Addr} {od31 an31 : Option Addr} {sl31 : Array (Option Value)} {oc31 dc31 pm31 cd31 ct31 : Value} {kV31 : Value}
    (a31 : PySem.W.nsIn K mainGlobals "law" = some (some (.ref f31)))
    (l31 : K.lookup f31 = some ⟨oc31, od31, .func (PySem.W.fnOf "law" "law" (defArgs s_law) (defBody s_law) (defScope s_law) .none kV31 dc31 pm31 an31 cd31 ct31), sl31⟩) (c31 : PySem.W.codeIn K cd31 "law" = true) (k31 : PySem.W.keepIn K (.ref f31) = true)
    (z_abs : PySem.W.nsIn K mainGlobals "abs" = some none)
    (z_all : PySem.W.nsIn K mainGlobals "all" = some none)
    (z_any : PySem.W.nsIn K mainGlobals "any" = some none)
    (z_bool : PySem.W.nsIn K mainGlobals "bool" = some none)
    (z_enumerate : PySem.W.nsIn K mainGlobals "enumerate" = some none)
    (z_int : PySem.W.nsIn K mainGlobals "int" = some none)
    (z_isinstance : PySem.W.nsIn K mainGlobals "isinstance" = some none)
    (z_len : PySem.W.nsIn K mainGlobals "len" = some none)
    (z_list : PySem.W.nsIn K mainGlobals "list" = some none)
    (z_max : PySem.W.nsIn K mainGlobals "max" = some none)
    (z_range : PySem.W.nsIn K mainGlobals "range" = some none)
    (z_repr : PySem.W.nsIn K mainGlobals "repr" = some none)
    (z_set : PySem.W.nsIn K mainGlobals "set" = some none)
    (z_sorted : PySem.W.nsIn K mainGlobals "sorted" = some none)
    (z_str : PySem.W.nsIn K mainGlobals "str" = some none)
    (z_sum : PySem.W.nsIn K mainGlobals "sum" = some none)
    (z_tuple : PySem.W.nsIn K mainGlobals "tuple" = some none)
    (z_zip : PySem.W.nsIn K mainGlobals "zip" = some none)
    {gt_ALIKE : Tok} (gv_ALIKE : PySem.W.nsIn K mainGlobals "ALIKE" = some (some (.str "alike" gt_ALIKE)))
    {gt_DIGITS_verdicts : Tok} (gv_DIGITS_verdicts : PySem.W.nsIn K mainGlobals "DIGITS_verdicts" = some (some (.str "digits" gt_DIGITS_verdicts)))
    {gt_FORM : Tok} (gv_FORM : PySem.W.nsIn K mainGlobals "FORM" = some (some (.str "form" gt_FORM)))
    {gt_FORM_PARTS : Tok} (gv_FORM_PARTS : PySem.W.nsIn K mainGlobals "FORM_PARTS" = some (some (.int 3 gt_FORM_PARTS)))
    {gt_MODULO_verdicts : Tok} (gv_MODULO_verdicts : PySem.W.nsIn K mainGlobals "MODULO_verdicts" = some (some (.str "modulo" gt_MODULO_verdicts)))
    {gt_MOST_MOVES : Tok} (gv_MOST_MOVES : PySem.W.nsIn K mainGlobals "MOST_MOVES" = some (some (.int 12 gt_MOST_MOVES)))
    {gt_NEVER : Tok} (gv_NEVER : PySem.W.nsIn K mainGlobals "NEVER" = some (some (.str "never" gt_NEVER)))
    : ∃ fd : FuncData, (∀ (s : Shared) (v : Value), BindsTo s fd ⟨[v], []⟩ [("_law_script", v)]) ∧ ∀ base : Heap, K.In base → base.Ns mainGlobals mg → FnG l.prog w K mg base CX0 8 fa fd ["_law_script"] (spLaw K) := by
  have e := hfa.symm.trans (PySem.W.mg_of X G a31)
  cases e
  let T : Txt K mg := { C_System := C0, mC_System := PySem.W.mg_of X G nc0, cl_System := ⟨pa0, pb0, pc0, pd0⟩, mk_System := ⟨pe0, a1, i1, pk0⟩, na_System_names := na0_0, na_System_rows := na0_1, na_System_rests := na0_2, me_System_fulfils := ⟨a2, i2, k2⟩, f_product_sum := _, fd_product_sum := _, F_product_sum := fun_mk l0 c0 k0, m_product_sum := PySem.W.mg_of X G a0, f_System_uinitu := f1, fd_System_uinitu := _, FD_System_uinitu := ⟨⟨_, _, _, _, _, _, _, _, _, _, rfl, l1, c1, .inr ⟨by simp, T1, _, [.ref E1_0], mT1, rfl, lT1, rfl, (.cons rfl .nil)⟩, .inl rfl⟩, k1⟩, da_System_uinitu_0 := E1_0, dp_System_uinitu_0 := ⟨_, _, lE1_0, rfl, rfl⟩, f_System_fulfils := _, fd_System_fulfils := _, F_System_fulfils := fun_mk l2 c2 k2, f_is_integer := _, fd_is_integer := _, F_is_integer := fun_mk l3 c3 k3, m_is_integer := PySem.W.mg_of X G a3, f_is_move := _, fd_is_move := _, F_is_move := fun_mk l4 c4 k4, m_is_move := PySem.W.mg_of X G a4, f_is_front := _, fd_is_front := _, F_is_front := fun_mk l5 c5 k5, m_is_front := PySem.W.mg_of X G a5, f_form_holds := _, fd_form_holds := _, F_form_holds := fun_mk l6 c6 k6, m_form_holds := PySem.W.mg_of X G a6, f_places_of_pair := _, fd_places_of_pair := _, F_places_of_pair := fun_mk l7 c7 k7, m_places_of_pair := PySem.W.mg_of X G a7, f_is_parted := _, fd_is_parted := _, F_is_parted := fun_mk l8 c8 k8, m_is_parted := PySem.W.mg_of X G a8, f_is_alike := _, fd_is_alike := _, F_is_alike := fun_mk l9 c9 k9, m_is_alike := PySem.W.mg_of X G a9, f_is_modulo_right := _, fd_is_modulo_right := _, F_is_modulo_right := fun_mk l10 c10 k10, m_is_modulo_right := PySem.W.mg_of X G a10, f_is_alike_right := _, fd_is_alike_right := _, F_is_alike_right := fun_mk l11 c11 k11, m_is_alike_right := PySem.W.mg_of X G a11, f_is_never_right := _, fd_is_never_right := _, F_is_never_right := fun_mk l12 c12 k12, m_is_never_right := PySem.W.mg_of X G a12, f_is_form_right := _, fd_is_form_right := _, F_is_form_right := fun_mk l13 c13 k13, m_is_form_right := PySem.W.mg_of X G a13, f_is_digits_right := _, fd_is_digits_right := _, F_is_digits_right := fun_mk l14 c14 k14, m_is_digits_right := PySem.W.mg_of X G a14, f_verdict_holds := f15, fd_verdict_holds := _, FD_verdict_holds := ⟨⟨_, _, _, _, _, _, _, _, _, _, rfl, l15, c15, .inl ⟨rfl, rfl⟩, .inr ⟨KD15, rfl, fun q hq => by simp at hq; subst hq; exact ⟨_, kd15, rfl⟩⟩⟩, k15⟩, da_verdict_holds_0 := E15_0, dp_verdict_holds_0 := ⟨_, _, lE15_0, rfl, rfl⟩, m_verdict_holds := PySem.W.mg_of X G a15, f_l_deck := _, fd_l_deck := _, F_l_deck := fun_mk l16 c16 k16, m_l_deck := PySem.W.mg_of X G a16, f_l_draw := _, fd_l_draw := _, F_l_draw := fun_mk l17 c17 k17, m_l_draw := PySem.W.mg_of X G a17, f_l_dot := _, fd_l_dot := _, F_l_dot := fun_mk l18 c18 k18, m_l_dot := PySem.W.mg_of X G a18, f_l_code := _, fd_l_code := _, F_l_code := fun_mk l19 c19 k19, m_l_code := PySem.W.mg_of X G a19, f_l_is_met := _, fd_l_is_met := _, F_l_is_met := fun_mk l20 c20 k20, m_l_is_met := PySem.W.mg_of X G a20, f_l_called := _, fd_l_called := _, F_l_called := fun_mk l21 c21 k21, m_l_called := PySem.W.mg_of X G a21, f_l_planted := _, fd_l_planted := _, F_l_planted := fun_mk l22 c22 k22, m_l_planted := PySem.W.mg_of X G a22, f_l_marks := _, fd_l_marks := _, F_l_marks := fun_mk l23 c23 k23, m_l_marks := PySem.W.mg_of X G a23, f_l_own_form := _, fd_l_own_form := _, F_l_own_form := fun_mk l24 c24 k24, m_l_own_form := PySem.W.mg_of X G a24, f_l_rewritten := _, fd_l_rewritten := _, F_l_rewritten := fun_mk l25 c25 k25, m_l_rewritten := PySem.W.mg_of X G a25, f_l_apart := _, fd_l_apart := _, F_l_apart := fun_mk l26 c26 k26, m_l_apart := PySem.W.mg_of X G a26, f_l_are_parted := _, fd_l_are_parted := _, F_l_are_parted := fun_mk l27 c27 k27, m_l_are_parted := PySem.W.mg_of X G a27, f_l_sure_world := _, fd_l_sure_world := _, F_l_sure_world := fun_mk l28 c28 k28, m_l_sure_world := PySem.W.mg_of X G a28, f_l_is_told := _, fd_l_is_told := _, F_l_is_told := fun_mk l29 c29 k29, m_l_is_told := PySem.W.mg_of X G a29, f_l_right := _, fd_l_right := _, F_l_right := fun_mk l30 c30 k30, m_l_right := PySem.W.mg_of X G a30, f_law := _, fd_law := _, F_law := fun_mk l31 c31 k31, m_law := PySem.W.mg_of X G a31, z_abs := PySem.W.mg_none_of X G z_abs, z_all := PySem.W.mg_none_of X G z_all, z_any := PySem.W.mg_none_of X G z_any, z_bool := PySem.W.mg_none_of X G z_bool, z_enumerate := PySem.W.mg_none_of X G z_enumerate, z_int := PySem.W.mg_none_of X G z_int, z_isinstance := PySem.W.mg_none_of X G z_isinstance, z_len := PySem.W.mg_none_of X G z_len, z_list := PySem.W.mg_none_of X G z_list, z_max := PySem.W.mg_none_of X G z_max, z_range := PySem.W.mg_none_of X G z_range, z_repr := PySem.W.mg_none_of X G z_repr, z_set := PySem.W.mg_none_of X G z_set, z_sorted := PySem.W.mg_none_of X G z_sorted, z_str := PySem.W.mg_none_of X G z_str, z_sum := PySem.W.mg_none_of X G z_sum, z_tuple := PySem.W.mg_none_of X G z_tuple, z_zip := PySem.W.mg_none_of X G z_zip, g_ALIKE := ⟨_, PySem.W.mg_of X G gv_ALIKE⟩, g_DIGITS_verdicts := ⟨_, PySem.W.mg_of X G gv_DIGITS_verdicts⟩, g_FORM := ⟨_, PySem.W.mg_of X G gv_FORM⟩, g_FORM_PARTS := ⟨_, PySem.W.mg_of X G gv_FORM_PARTS⟩, g_MODULO_verdicts := ⟨_, PySem.W.mg_of X G gv_MODULO_verdicts⟩, g_MOST_MOVES := ⟨_, PySem.W.mg_of X G gv_MOST_MOVES⟩, g_NEVER := ⟨_, PySem.W.mg_of X G gv_NEVER⟩ }
  exact ⟨T.fd_law, fun s v => .of_eq rfl, fun base _ _ => ok_law T⟩
end Pg
open PySem PySem.W PyProof.Rows
set_option maxRecDepth 100000 in
set_option maxHeartbeats 0 in
theorem PySem.Challenge.cw_whateverboxes_k29_right_forms_by_any_han_holds : PySem.Challenge.rw_whateverboxes_k29_right_forms_by_any_han.Holds := by
  w_on; o_law; k_head; (case hw => w_witness2)
  k_fill
  refine L3.walk_ofG (l := PySem.Challenge.rw_whateverboxes_k29_right_forms_by_any_han) (n := 63) (k := 8) (x := "_law_script") (sp := fun K => L3.spLaw K) rfl (by decide) rfl ⟨rfl, by decide, by decide⟩ (fun w h Y => PySem.W.kIn_of Y) ?F (fun _ _ a ns hl hS => ⟨a, ns, rfl, hS, hl, fun _ => rfl⟩)
  case F =>
    intro w mg fa h KX G hmg
    refine' Pg.all_mk KX G hmg ?nc0 ?pa0 ?pb0 ?pc0 ?pd0 ?pe0 ?pk0 ?na0_0 ?na0_1 ?na0_2 ?a0 ?l0 ?c0 ?k0 ?a1 ?i1 ?l1 ?c1 ?k1 ?lT1 ?lE1_0 ?a2 ?i2 ?l2 ?c2 ?k2 ?a3 ?l3 ?c3 ?k3 ?a4 ?l4 ?c4 ?k4 ?a5 ?l5 ?c5 ?k5 ?a6 ?l6 ?c6 ?k6 ?a7 ?l7 ?c7 ?k7 ?a8 ?l8 ?c8 ?k8 ?a9 ?l9 ?c9 ?k9 ?a10 ?l10 ?c10 ?k10 ?a11 ?l11 ?c11 ?k11 ?a12 ?l12 ?c12 ?k12 ?a13 ?l13 ?c13 ?k13 ?a14 ?l14 ?c14 ?k14 ?a15 ?l15 ?c15 ?k15 ?kd15 ?lE15_0 ?a16 ?l16 ?c16 ?k16 ?a17 ?l17 ?c17 ?k17 ?a18 ?l18 ?c18 ?k18 ?a19 ?l19 ?c19 ?k19 ?a20 ?l20 ?c20 ?k20 ?a21 ?l21 ?c21 ?k21 ?a22 ?l22 ?c22 ?k22 ?a23 ?l23 ?c23 ?k23 ?a24 ?l24 ?c24 ?k24 ?a25 ?l25 ?c25 ?k25 ?a26 ?l26 ?c26 ?k26 ?a27 ?l27 ?c27 ?k27 ?a28 ?l28 ?c28 ?k28 ?a29 ?l29 ?c29 ?k29 ?a30 ?l30 ?c30 ?k30 ?a31 ?l31 ?c31 ?k31 ?z_abs ?z_all ?z_any ?z_bool ?z_enumerate ?z_int ?z_isinstance ?z_len ?z_list ?z_max ?z_range ?z_repr ?z_set ?z_sorted ?z_str ?z_sum ?z_tuple ?z_zip ?gv_ALIKE ?gv_DIGITS_verdicts ?gv_FORM ?gv_FORM_PARTS ?gv_MODULO_verdicts ?gv_MOST_MOVES ?gv_NEVER
    (case nc0 => k_is)
    (case pa0 => k_is)
    (case pb0 => k_is)
    (case pc0 => k_is)
    (case pd0 => k_is)
    (case pe0 => k_is)
    (case pk0 => k_is)
    (case na0_0 => k_is)
    (case na0_1 => k_is)
    (case na0_2 => k_is)
    (case a0 => k_is)
    (case l0 => k_is)
    (case c0 => k_is)
    (case k0 => k_is)
    (case a1 => k_is)
    (case i1 => k_is)
    (case l1 => k_is)
    (case c1 => k_is)
    (case k1 => k_is)
    (case lT1 => k_is)
    (case lE1_0 => k_is)
    (case a2 => k_is)
    (case i2 => k_is)
    (case l2 => k_is)
    (case c2 => k_is)
    (case k2 => k_is)
    (case a3 => k_is)
    (case l3 => k_is)
    (case c3 => k_is)
    (case k3 => k_is)
    (case a4 => k_is)
    (case l4 => k_is)
    (case c4 => k_is)
    (case k4 => k_is)
    (case a5 => k_is)
    (case l5 => k_is)
    (case c5 => k_is)
    (case k5 => k_is)
    (case a6 => k_is)
    (case l6 => k_is)
    (case c6 => k_is)
    (case k6 => k_is)
    (case a7 => k_is)
    (case l7 => k_is)
    (case c7 => k_is)
    (case k7 => k_is)
    (case a8 => k_is)
    (case l8 => k_is)
    (case c8 => k_is)
    (case k8 => k_is)
    (case a9 => k_is)
    (case l9 => k_is)
    (case c9 => k_is)
    (case k9 => k_is)
    (case a10 => k_is)
    (case l10 => k_is)
    (case c10 => k_is)
    (case k10 => k_is)
    (case a11 => k_is)
    (case l11 => k_is)
    (case c11 => k_is)
    (case k11 => k_is)
    (case a12 => k_is)
    (case l12 => k_is)
    (case c12 => k_is)
    (case k12 => k_is)
    (case a13 => k_is)
    (case l13 => k_is)
    (case c13 => k_is)
    (case k13 => k_is)
    (case a14 => k_is)
    (case l14 => k_is)
    (case c14 => k_is)
    (case k14 => k_is)
    (case a15 => k_is)
    (case l15 => k_is)
    (case c15 => k_is)
    (case k15 => k_is)
    (case kd15 => k_is)
    (case lE15_0 => k_is)
    (case a16 => k_is)
    (case l16 => k_is)
    (case c16 => k_is)
    (case k16 => k_is)
    (case a17 => k_is)
    (case l17 => k_is)
    (case c17 => k_is)
    (case k17 => k_is)
    (case a18 => k_is)
    (case l18 => k_is)
    (case c18 => k_is)
    (case k18 => k_is)
    (case a19 => k_is)
    (case l19 => k_is)
    (case c19 => k_is)
    (case k19 => k_is)
    (case a20 => k_is)
    (case l20 => k_is)
    (case c20 => k_is)
    (case k20 => k_is)
    (case a21 => k_is)
    (case l21 => k_is)
    (case c21 => k_is)
    (case k21 => k_is)
    (case a22 => k_is)
    (case l22 => k_is)
    (case c22 => k_is)
    (case k22 => k_is)
    (case a23 => k_is)
    (case l23 => k_is)
    (case c23 => k_is)
    (case k23 => k_is)
    (case a24 => k_is)
    (case l24 => k_is)
    (case c24 => k_is)
    (case k24 => k_is)
    (case a25 => k_is)
    (case l25 => k_is)
    (case c25 => k_is)
    (case k25 => k_is)
    (case a26 => k_is)
    (case l26 => k_is)
    (case c26 => k_is)
    (case k26 => k_is)
    (case a27 => k_is)
    (case l27 => k_is)
    (case c27 => k_is)
    (case k27 => k_is)
    (case a28 => k_is)
    (case l28 => k_is)
    (case c28 => k_is)
    (case k28 => k_is)
    (case a29 => k_is)
    (case l29 => k_is)
    (case c29 => k_is)
    (case k29 => k_is)
    (case a30 => k_is)
    (case l30 => k_is)
    (case c30 => k_is)
    (case k30 => k_is)
    (case a31 => k_is)
    (case l31 => k_is)
    (case c31 => k_is)
    (case k31 => k_is)
    (case z_abs => k_is)
    (case z_all => k_is)
    (case z_any => k_is)
    (case z_bool => k_is)
    (case z_enumerate => k_is)
    (case z_int => k_is)
    (case z_isinstance => k_is)
    (case z_len => k_is)
    (case z_list => k_is)
    (case z_max => k_is)
    (case z_range => k_is)
    (case z_repr => k_is)
    (case z_set => k_is)
    (case z_sorted => k_is)
    (case z_str => k_is)
    (case z_sum => k_is)
    (case z_tuple => k_is)
    (case z_zip => k_is)
    (case gv_ALIKE => k_is)
    (case gv_DIGITS_verdicts => k_is)
    (case gv_FORM => k_is)
    (case gv_FORM_PARTS => k_is)
    (case gv_MODULO_verdicts => k_is)
    (case gv_MOST_MOVES => k_is)
    (case gv_NEVER => k_is)
#print axioms PySem.Challenge.cw_whateverboxes_k29_right_forms_by_any_han_holds
